import PyProof.Rows.All
import Wide.All
import OpenK.AllK
import Wide.FinOn
import HandS.ForMost
import HandS.Deep
import HandS.StrMore
import HandS.IsInst
import HandS.Flow
import KE.KeyNested
import HandS.TupAny
import HandS.ReCall
import KE.KIndexOf
import KE.GoesMore
import KE.GoesEnum
import HandS.SetFor
import HandS.Property
import HandS.Style
import HandS.Words
import HandS.WordsExc
import HandS.Defaults
import HandS.SlotsOwn
import HandS.Codes
import PyProof.Rows.FactsN_abs
import PyProof.Rows.FactsN_isinstance
import PyProof.DictRoadsH
import PyProof.DictMoreH
import OpenK.KMeth
import PySem.Challenge.RW_pagesheld_k28_whole_least_pair
set_option Elab.async false
set_option linter.all false
set_option maxRecDepth 100000
namespace L3
open PySem L2

/-! ### data without a heap -/
inductive D where
  | non | bl (b : Bool) | int (i : Int) | str (s : Str)
  | tup (xs : List D) | lst (xs : List D)
  | dic (kvs : List (Key × D)) | dit (kvs : List (List Key × D))
  | obj (C : Addr) (fs : List (Str × D))
  | ty (n : String) | cls (C : Addr)
  | scr (ns : List Int)
  | bx (b : Addr) (d : D)
  | din (w : World) (kvs : List (D × D))

/-- a dict whose keys are tuples (nested), by its entries -/
def DNat (w : World) (d : Addr) (xs : List (NestedKey × Addr × Value)) (h : Heap) : Prop :=
  ∃ o es ep, h.get? d = some o ∧ o.ExactDict ∧ o.data = .dict es ep ∧ es.toList = xs.map (fun x => (⟨x.1.hash w, .ref x.2.1, x.2.2⟩ : DictEntry)) ∧ (xs.map (·.1)).Nodup ∧ xs.length ≤ sizeLine ∧ (d == sysModules) = false
mutual
/-- data as a key -/
def D.nk : D → Option NestedKey
  | .non => some .none
  | .bl b => some (.num (if b = true then 1 else 0))
  | .int i => some (.num i)
  | .str s => some (.text s)
  | .tup ds => (D.nks ds).map .tup
  | _ => none
def D.nks : List D → Option (List NestedKey)
  | [] => some []
  | d :: ds => match D.nk d, D.nks ds with
    | some k, some ks => some (k :: ks)
    | _, _ => none
end
def KT (K : PySem.W.Frag) (a : Addr) (xs : List V) : Prop :=
  ∃ (o : Obj) (its : Array Value) (n : Nat), K.lookup a = some o ∧ o.cls = .type "tuple" ∧ o.dict = none ∧ o.data = .seq its n ∧ its.size ≤ sizeLine ∧ Vals xs its.toList
def KL (K : PySem.W.Frag) (a : Addr) (xs : List V) : Prop :=
  ∃ (o : Obj) (its : Array Value) (n : Nat), K.lookup a = some o ∧ o.cls = .type "list" ∧ o.dict = none ∧ o.data = .seq its n ∧ its.size ≤ sizeLine ∧ Vals xs its.toList
abbrev US := Addr → Prop
def TupAt (H : Hp) (a : Addr) (xs : List V) : Prop := ∃ o : Obj, o.dict = none ∧ H a = some (.frz o (.tup xs))
def RdT (K : PySem.W.Frag) (H : Hp) (U : US) (a : Addr) (xs : List V) : Prop := (TupAt H a xs ∧ ¬ U a) ∨ KT K a xs
def RdL (H : Hp) (U : US) (a : Addr) (xs : List V) : Prop := H a = some (.lst xs) ∧ ¬ U a
mutual
def Rp (K : PySem.W.Frag) (H : Hp) (U : US) : D → V → Prop
  | .non, v => v = .non
  | .bl b, v => v = .bl b
  | .int i, v => v = .int i
  | .str s, v => v = .str s
  | .tup ds, v => ∃ a vs, v = .ref a ∧ RdT K H U a vs ∧ RpAll K H U ds vs
  | .lst ds, v => ∃ a vs, v = .ref a ∧ RdL H U a vs ∧ RpAll K H U ds vs
  | .dic ds, v => ∃ a kvs, v = .ref a ∧ Rd H a (.dK kvs) ∧ ¬ U a ∧ RpK K H U ds kvs
  | .dit ds, v => ∃ a kvs, v = .ref a ∧ Rd H a (.dT kvs) ∧ ¬ U a ∧ RpT K H U ds kvs
  | .ty n, v => v = .ty n
  | .cls C, v => v = .ref C
  | .bx _ _, _ => False
  | .din w ds, v => ∃ a xs, v = .ref a ∧ Rd H a (.ext (DNat w a xs)) ∧ ¬ U a ∧ RpN K H U ds xs
  | .scr ns, v => ∃ a, v = .ref a ∧ (KL K a (ns.map V.int) ∨ ∃ o, H a = some (.frz o (.lst (ns.map V.int))) ∧ ¬ U a)
  | .obj C fs, v => ∃ a dx gs, v = .ref a ∧ H a = some (.ins C dx gs) ∧ ¬ U a ∧ RpF K H U fs gs
def RpAll (K : PySem.W.Frag) (H : Hp) (U : US) : List D → List V → Prop
  | [], vs => vs = []
  | d :: ds, vs => ∃ v r, vs = v :: r ∧ Rp K H U d v ∧ RpAll K H U ds r
def RpK (K : PySem.W.Frag) (H : Hp) (U : US) : List (Key × D) → List (Key × V) → Prop
  | [], vs => vs = []
  | (k, d) :: ds, vs => ∃ v r, vs = (k, v) :: r ∧ Rp K H U d v ∧ RpK K H U ds r
def RpT (K : PySem.W.Frag) (H : Hp) (U : US) : List (List Key × D) → List (List Key × V) → Prop
  | [], vs => vs = []
  | (k, d) :: ds, vs => ∃ v r, vs = (k, v) :: r ∧ Rp K H U d v ∧ RpT K H U ds r
def RpN (K : PySem.W.Frag) (H : Hp) (U : US) : List (D × D) → List (NestedKey × Addr × Value) → Prop
  | [], xs => xs = []
  | (dk, dv) :: ds, xs => ∃ k b u v r, xs = (k, b, u) :: r ∧ dk.nk = some k ∧ k.depth ≤ 8 ∧ Rp K H U dk (.ref b) ∧ Rp K H U dv v ∧ RelV v u ∧ RpN K H U ds r
def RpF (K : PySem.W.Frag) (H : Hp) (U : US) : List (Str × D) → List (Str × V) → Prop
  | [], vs => vs = []
  | (k, d) :: ds, vs => ∃ v r, vs = (k, v) :: r ∧ Rp K H U d v ∧ RpF K H U ds r
end
def Pres (H : Hp) (U : US) (H' : Hp) (U' : US) : Prop := ∀ a o, H a = some o → ¬ U a → H' a = some o ∧ ¬ U' a
theorem Pres.refl (H : Hp) (U : US) : Pres H U H U := fun _ _ h n => ⟨h, n⟩
theorem Pres.trans {H H1 H2 : Hp} {U U1 U2 : US} (a : Pres H U H1 U1) (b : Pres H1 U1 H2 U2) : Pres H U H2 U2 := fun x o h n =>
  let ⟨h1, n1⟩ := a x o h n
  b x o h1 n1
theorem Pres.rd {H H' : Hp} {U U' : US} (p : Pres H U H' U') {a : Addr} {u : HO} (h : Rd H a u) (n : ¬ U a) : Rd H' a u ∧ ¬ U' a := by
  rcases h with h | ⟨o, h⟩
  · obtain ⟨h', n'⟩ := p a _ h n
    exact ⟨.inl h', n'⟩
  · obtain ⟨h', n'⟩ := p a _ h n
    exact ⟨.inr ⟨o, h'⟩, n'⟩
theorem RdT.pres {K : PySem.W.Frag} {H H' : Hp} {U U' : US} (p : Pres H U H' U') {a : Addr} {xs : List V} (h : RdT K H U a xs) : RdT K H' U' a xs := by
  rcases h with ⟨⟨o, hd, h⟩, n⟩ | h
  · obtain ⟨h', n'⟩ := p a _ h n
    exact .inl ⟨⟨o, hd, h'⟩, n'⟩
  · exact .inr h
theorem KT.sq {K : PySem.W.Frag} {H : Hp} {a : Addr} {xs : List V} (h : KT K a xs) : SqT K H a xs := by
  obtain ⟨o, its, n, h1, h2, _, h3, h4, h5⟩ := h
  exact .inr ⟨o, its, n, h1, h2, h3, h4, h5⟩
theorem RdT.sq {K : PySem.W.Frag} {H : Hp} {U : US} {a : Addr} {xs : List V} (h : RdT K H U a xs) : SqT K H a xs := by
  rcases h with ⟨⟨o, _, h⟩, _⟩ | h
  · exact .inl (.inr ⟨o, h⟩)
  · exact h.sq
theorem RdL.pres {H H' : Hp} {U U' : US} (p : Pres H U H' U') {a : Addr} {xs : List V} (h : RdL H U a xs) : RdL H' U' a xs := p a _ h.1 h.2
mutual
theorem Rp.pres {K : PySem.W.Frag} {H H' : Hp} {U U' : US} (p : Pres H U H' U') : ∀ (d : D) (v : V), Rp K H U d v → Rp K H' U' d v
  | .non, _, h => by simpa only [Rp] using h
  | .bl _, _, h => by simpa only [Rp] using h
  | .int _, _, h => by simpa only [Rp] using h
  | .str _, _, h => by simpa only [Rp] using h
  | .ty _, _, h => by simpa only [Rp] using h
  | .scr _, _, h => by
    simp only [Rp] at h ⊢
    obtain ⟨a, e, h⟩ := h
    refine ⟨a, e, h.imp id fun ⟨o, h1, n⟩ => ?_⟩
    obtain ⟨h', n'⟩ := p a _ h1 n
    exact ⟨o, h', n'⟩
  | .cls _, _, h => by simpa only [Rp] using h
  | .bx _ _, _, h => by simp only [Rp] at h
  | .din w ds, _, h => by
    simp only [Rp] at h ⊢
    obtain ⟨a, xs, e, h1, n, h2⟩ := h
    obtain ⟨h1, n⟩ := p.rd h1 n
    exact ⟨a, xs, e, h1, n, RpN.pres p ds xs h2⟩
  | .tup ds, _, h => by
    simp only [Rp] at h ⊢
    obtain ⟨a, vs, e, h1, h2⟩ := h
    exact ⟨a, vs, e, h1.pres p, RpAll.pres p ds vs h2⟩
  | .lst ds, _, h => by
    simp only [Rp] at h ⊢
    obtain ⟨a, vs, e, h1, h2⟩ := h
    exact ⟨a, vs, e, h1.pres p, RpAll.pres p ds vs h2⟩
  | .dic ds, _, h => by
    simp only [Rp] at h ⊢
    obtain ⟨a, vs, e, h1, n, h2⟩ := h
    obtain ⟨h1, n⟩ := p.rd h1 n
    exact ⟨a, vs, e, h1, n, RpK.pres p ds vs h2⟩
  | .dit ds, _, h => by
    simp only [Rp] at h ⊢
    obtain ⟨a, vs, e, h1, n, h2⟩ := h
    obtain ⟨h1, n⟩ := p.rd h1 n
    exact ⟨a, vs, e, h1, n, RpT.pres p ds vs h2⟩
  | .obj C fs, _, h => by
    simp only [Rp] at h ⊢
    obtain ⟨a, dx, gs, e, h1, n, h2⟩ := h
    obtain ⟨h1, n⟩ := p a _ h1 n
    exact ⟨a, dx, gs, e, h1, n, RpF.pres p fs gs h2⟩
theorem RpAll.pres {K : PySem.W.Frag} {H H' : Hp} {U U' : US} (p : Pres H U H' U') : ∀ (ds : List D) (vs : List V), RpAll K H U ds vs → RpAll K H' U' ds vs
  | [], _, h => by simpa only [RpAll] using h
  | d :: ds, _, h => by
    simp only [RpAll] at h ⊢
    obtain ⟨v, r, e, h1, h2⟩ := h
    exact ⟨v, r, e, Rp.pres p d v h1, RpAll.pres p ds r h2⟩
theorem RpK.pres {K : PySem.W.Frag} {H H' : Hp} {U U' : US} (p : Pres H U H' U') : ∀ (ds : List (Key × D)) (vs : List (Key × V)), RpK K H U ds vs → RpK K H' U' ds vs
  | [], _, h => by simpa only [RpK] using h
  | (k, d) :: ds, _, h => by
    simp only [RpK] at h ⊢
    obtain ⟨v, r, e, h1, h2⟩ := h
    exact ⟨v, r, e, Rp.pres p d v h1, RpK.pres p ds r h2⟩
theorem RpT.pres {K : PySem.W.Frag} {H H' : Hp} {U U' : US} (p : Pres H U H' U') : ∀ (ds : List (List Key × D)) (vs : List (List Key × V)), RpT K H U ds vs → RpT K H' U' ds vs
  | [], _, h => by simpa only [RpT] using h
  | (k, d) :: ds, _, h => by
    simp only [RpT] at h ⊢
    obtain ⟨v, r, e, h1, h2⟩ := h
    exact ⟨v, r, e, Rp.pres p d v h1, RpT.pres p ds r h2⟩
theorem RpN.pres {K : PySem.W.Frag} {H H' : Hp} {U U' : US} (p : Pres H U H' U') : ∀ (ds : List (D × D)) (xs : List (NestedKey × Addr × Value)), RpN K H U ds xs → RpN K H' U' ds xs
  | [], _, h => by simpa only [RpN] using h
  | (dk, dv) :: ds, _, h => by
    simp only [RpN] at h ⊢
    obtain ⟨k, b, u, v, r, e, h1, h2, h3, h4, h5, h6⟩ := h
    exact ⟨k, b, u, v, r, e, h1, h2, Rp.pres p dk _ h3, Rp.pres p dv _ h4, h5, RpN.pres p ds r h6⟩
theorem RpF.pres {K : PySem.W.Frag} {H H' : Hp} {U U' : US} (p : Pres H U H' U') : ∀ (ds : List (Str × D)) (vs : List (Str × V)), RpF K H U ds vs → RpF K H' U' ds vs
  | [], _, h => by simpa only [RpF] using h
  | (k, d) :: ds, _, h => by
    simp only [RpF] at h ⊢
    obtain ⟨v, r, e, h1, h2⟩ := h
    exact ⟨v, r, e, Rp.pres p d v h1, RpF.pres p ds r h2⟩
end
end L3

set_option Elab.async false
set_option linter.all false
set_option maxRecDepth 100000
namespace L3
open PySem PySem.Spec L2 PyProof.Rows

abbrev tupObj (its : List Value) : Obj := { cls := .type "tuple", data := .seq its.toArray }
section
variable {X : Cx} {es : List Expr} {t : TA} {pos : Pos}
/-- a new tuple, known to the object -/
theorem tnewI {pins : List (Addr × Obj)} {σ : L2.St} {H : Hp} {s : Shared} (I : Inv X pins σ H s) {xs : List V} {its : List Value} {t' : Nat} (r : Vals xs its) (z : xs.length ≤ sizeLine) :
    Inv X pins σ (upd H s.heap.objs.size (.frz (tupObj its) (.tup xs))) { s with heap := s.heap.push (tupObj its), toks := t' } :=
  I.laid (t' := t') (fun b u e => Heap.get?_push_of_some _ e) (Nat.le_refl _) ⟨Heap.get?_push_size _ rfl, z, its, r, IsTup.new _ _⟩
def tTupF (t : TA) : TE := fun σ H Q => t σ H fun xs H1 => xs.length ≤ sizeLine ∧ ∀ (p : Addr) (o : Obj), H1 p = none → o.dict = none → Q (.ref p) (upd H1 p (.frz o (.tup xs)))
theorem pe_tupF {x1} (h : PA X es t) : PE X (.Tuple es x1 pos) (tTupF t) := by
  refine ⟨fun pins s σ H Q I hq => ?_⟩
  refine wpAny_Tuple_spliced (thn (h.run pos pins s σ H _ I hq) fun us s1 ⟨xs, H1, I1, r, z, q⟩ => ⟨by rw [← r.length]; exact z, ?_⟩)
  have hf : H1 s1.heap.objs.size = none := I1.hok.fresh (Nat.le_refl _)
  exact ⟨.ref s1.heap.objs.size, upd H1 s1.heap.objs.size (.frz (tupObj us) (.tup xs)), tnewI I1 r z, rfl, q _ (tupObj us) hf rfl⟩
def rTupF (K : PySem.W.Frag) : List V → Hp → VK → Prop := fun xs H Q => ∃ p ys, xs = [.ref p] ∧ ((SqL K H p ys ∧ ∀ (l : Addr) (o : Obj), H l = none → o.dict = none → Q (.ref l) (upd H l (.frz o (.tup ys)))) ∨ (SqT K H p ys ∧ Q (.ref p) H))
theorem call_tupleF : CallR X (.type "tuple") (rTupF X.K) := by
  intro pins s σ H xs us Q I r h
  obtain ⟨p, ys, rfl, h⟩ := h
  rcases h with ⟨hq, q⟩ | ⟨hq, q⟩
  · cases r with
    | cons rx rr =>
      cases rr
      cases rx
      obtain ⟨its, r', pl, hz⟩ := I.list hq
      have hlen := r'.length
      refine call_tuple_list pl.isList (fun h' kp => ?_) (by simp only [List.size_toArray] <;> omega)
      have I1 : Inv X pins σ H { s with heap := h' } := I.kept (t' := s.toks) kp
      exact ⟨.ref h'.objs.size, _, tnewI I1 (t' := s.toks) r' hz, rfl, q _ (tupObj its) (I1.hok.fresh (Nat.le_refl _)) rfl⟩
  · exact call_tuple_of pins s σ H _ us Q I r ⟨p, ys, rfl, .inr ⟨hq, q⟩⟩
def rSlF (K : PySem.W.Frag) : V → Option Int → Option Int → Hp → VK → Prop := fun x lo hi H Q => ∃ a xs, x = .ref a ∧ SqT K H a xs ∧
  (HT.sIx xs.length 0 lo = 0 ∧ HT.sIx xs.length xs.length hi = xs.length → Q (.ref a) H) ∧
  (¬ (HT.sIx xs.length 0 lo = 0 ∧ HT.sIx xs.length xs.length hi = xs.length) → ∀ (p : Addr) (o : Obj), H p = none → o.dict = none → Q (.ref p) (upd H p (.frz o (.tup (cutV xs lo hi)))))
theorem sl_tupF : SlR X (rSlF X.K) := by
  intro pins s σ H x v vl vu lo hi sl Q I rx hs pl pu h
  obtain ⟨a, xs, rfl, hx, q1, q2⟩ := h
  cases rx
  obtain ⟨its, r, ht, hz⟩ := I.tuple hx
  have hlen : its.toArray.size = xs.length := by rw [List.size_toArray]; exact r.length.symm
  refine ⟨"tuple", _, PyProof.Rows.slot_tuple_getitem.lookup, ht.typeIs, ?_⟩
  by_cases hw : HT.sIx xs.length 0 lo = 0 ∧ HT.sIx xs.length xs.length hi = xs.length
  · exact L2.getItem_tuple_whole ht hs pl pu (by rw [hlen]; exact hw) ⟨.ref a, H, I, rfl, q1 hw⟩
  · refine HT.getItem_tuple_cut ht hs pl pu (by rw [hlen]; exact hw) ?_ (by rw [hlen]; exact hz)
    rw [hlen]
    exact ⟨.ref s.heap.objs.size, _, tnewI I (t' := s.toks) ((r.drop (HT.sIx xs.length 0 lo)).take (HT.sIx xs.length xs.length hi - HT.sIx xs.length 0 lo)) (Nat.le_trans (cutV_length xs lo hi) hz), rfl, q2 hw _ (tupObj _) (I.hok.fresh (Nat.le_refl _)) rfl⟩
def rCatF (K : PySem.W.Frag) : R2 := fun x y H Q => ∃ a b xs ys, x = .ref a ∧ y = .ref b ∧ SqT K H a xs ∧ SqT K H b ys ∧ xs.length + ys.length ≤ sizeLine ∧
  (xs = [] → Q (.ref b) H) ∧ (xs ≠ [] → ys = [] → Q (.ref a) H) ∧ (xs ≠ [] → ys ≠ [] → ∀ (p : Addr) (o : Obj), H p = none → o.dict = none → Q (.ref p) (upd H p (.frz o (.tup (xs ++ ys)))))
theorem op_catF : OpR X (binaryOp .Add) (rCatF X.K) := by
  intro pins s σ H x y v u Q I rx ry h
  obtain ⟨a, b, xs, ys, rfl, rfl, ha, hb, hz, q0, q1, q2⟩ := h
  cases rx
  cases ry
  obtain ⟨its, r1, p1, _⟩ := I.tuple ha
  obtain ⟨its2, r2, p2, _⟩ := I.tuple hb
  by_cases hx : xs = []
  · subst hx
    cases r1
    exact L2.cat_tup0 p1 p2 ⟨.ref b, H, I, rfl, q0 rfl⟩
  · refine HT.cat_tup p1 p2 (fun z => hx (r1.nil_iff.mp z)) (fun z => ⟨.ref a, H, I, rfl, q1 hx (r2.nil_iff.mp z)⟩) (fun z => ?_) (by rw [← r1.length, ← r2.length]; exact hz)
    exact ⟨.ref s.heap.objs.size, _, tnewI I (t' := s.toks) (r1.append r2) (by rw [List.length_append]; exact hz), rfl, q2 hx (fun w => z (r2.nil_iff.mpr w)) _ (tupObj _) (I.hok.fresh (Nat.le_refl _)) rfl⟩
end
end L3

set_option Elab.async false
set_option linter.all false
set_option maxRecDepth 100000
namespace L3
open PySem L2

/-- own, par: data without boxes; owb, pab: an instance whose fields may hold boxes (objects that it alone owns) -/
inductive Sl where
  | emp | shr (d : D) | own (d : D) | par (d : D) | brw (d : D) | owb (d : D) | pab (d : D)
abbrev En := List Sl
def Sl.isW : Sl → Bool
  | .own _ => true
  | .par _ => true
  | .owb _ => true
  | .pab _ => true
  | _ => false
def Sl.locked : Sl → Bool
  | .par _ => true
  | .pab _ => true
  | .brw _ => true
  | _ => false
def Sl.lk : Sl → Option (Option D)
  | .par _ => some none
  | .pab _ => some none
  | .brw d => some (some d)
  | _ => none
/-- the data that a slot holds -/
def Sl.dat : Sl → Option D
  | .emp => none
  | .shr d => some d
  | .own d => some d
  | .par d => some d
  | .brw d => some d
  | .owb d => some d
  | .pab d => some d
/-- the same slot with other data -/
def Sl.upd : Sl → D → Sl
  | .own _, d => .own d
  | .par _, d => .par d
  | .owb _, d => .owb d
  | .pab _, d => .pab d
  | s, _ => s
def bxsF : List (Str × D) → List Addr
  | [] => []
  | (_, .bx b _) :: fs => b :: bxsF fs
  | _ :: fs => bxsF fs
def D.bxs : D → List Addr
  | .obj _ fs => bxsF fs
  | _ => []
def Sl.bxs : Sl → List Addr
  | .owb d => d.bxs
  | .pab d => d.bxs
  | _ => []
/-- the slot s, which holds o, owns x -/
def Sl.reg (s : Sl) (o : Option V) (x : Addr) : Prop := s.isW = true ∧ (o = some (.ref x) ∨ x ∈ s.bxs)

section
variable (K : PySem.W.Frag) (H : Hp) (U : US)
def TopW : D → Addr → Prop
  | .lst ds, a => ∃ vs, H a = some (.lst vs) ∧ RpAll K H U ds vs
  | .dic ds, a => ∃ vs, H a = some (.dK vs) ∧ RpK K H U ds vs
  | .dit ds, a => ∃ vs, H a = some (.dT vs) ∧ RpT K H U ds vs
  | .din w ds, a => ∃ xs, H a = some (.ext (DNat w a xs)) ∧ RpN K H U ds xs
  | .obj C fs, a => ∃ dx gs, H a = some (.ins C dx gs) ∧ RpF K H U fs gs
  | _, _ => False
/-- a field's data: a box or shared -/
def Ov : D → V → Prop
  | .bx b d, v => v = .ref b ∧ U b ∧ TopW K H U d b
  | d, v => Rp K H U d v
def OvF : List (Str × D) → List (Str × V) → Prop
  | [], vs => vs = []
  | (k, d) :: ds, vs => ∃ v r, vs = (k, v) :: r ∧ Ov K H U d v ∧ OvF ds r
def TopB : D → Addr → Prop
  | .obj C fs, a => ∃ dx gs, H a = some (.ins C dx gs) ∧ OvF K H U fs gs ∧ (a :: bxsF fs).Nodup
  | _, _ => False
def TopR0 : D → Addr → Prop
  | .lst ds, a => ∃ vs, Rd H a (.lst vs) ∧ RpAll K H U ds vs
  | .dic ds, a => ∃ vs, Rd H a (.dK vs) ∧ RpK K H U ds vs
  | .dit ds, a => ∃ vs, Rd H a (.dT vs) ∧ RpT K H U ds vs
  | .din w ds, a => ∃ xs, Rd H a (.ext (DNat w a xs)) ∧ RpN K H U ds xs
  | .obj C fs, a => ∃ dx gs, H a = some (.ins C dx gs) ∧ RpF K H U fs gs
  | _, _ => False
def Rv : D → V → Prop
  | .bx b d, v => v = .ref b ∧ TopR0 K H U d b
  | d, v => Rp K H U d v
def RvF : List (Str × D) → List (Str × V) → Prop
  | [], vs => vs = []
  | (k, d) :: ds, vs => ∃ v r, vs = (k, v) :: r ∧ Rv K H U d v ∧ RvF ds r
def TopR : D → Addr → Prop
  | .lst ds, a => ∃ vs, Rd H a (.lst vs) ∧ RpAll K H U ds vs
  | .dic ds, a => ∃ vs, Rd H a (.dK vs) ∧ RpK K H U ds vs
  | .dit ds, a => ∃ vs, Rd H a (.dT vs) ∧ RpT K H U ds vs
  | .din w ds, a => ∃ xs, Rd H a (.ext (DNat w a xs)) ∧ RpN K H U ds xs
  | .obj C fs, a => ∃ dx gs, H a = some (.ins C dx gs) ∧ RvF K H U fs gs
  | _, _ => False
def SlotOk : Sl → Option V → Prop
  | .emp, _ => True
  | .shr d, o => ∃ v, o = some v ∧ Rp K H U d v
  | .own d, o => ∃ a, o = some (.ref a) ∧ U a ∧ TopW K H U d a
  | .par d, o => ∃ a, o = some (.ref a) ∧ U a ∧ TopW K H U d a
  | .owb d, o => ∃ a, o = some (.ref a) ∧ U a ∧ TopB K H U d a
  | .pab d, o => ∃ a, o = some (.ref a) ∧ U a ∧ TopB K H U d a
  | .brw _, _ => True
end
def Own (ρ : En) (σ : St) (x : Addr) : Prop := ∃ (i : Nat) (s : Sl) (o : Option V), ρ[i]? = some s ∧ σ[i]? = some o ∧ s.reg o x
theorem Own.root {ρ : En} {σ : St} {i : Nat} {s : Sl} {a : Addr} (h1 : ρ[i]? = some s) (h2 : s.isW = true) (h3 : σ[i]? = some (some (.ref a))) : Own ρ σ a := ⟨i, s, _, h1, h3, h2, .inl rfl⟩

structure Fr where
  K : PySem.W.Frag
  H0 : Hp
  U0 : US
  W0 : US
  S0 : St
  L0 : Nat → Option D → Prop

/-- what a lent slot's address shields: itself and its boxes -/
def D.reg (d : D) (a x : Addr) : Prop := x = a ∨ x ∈ d.bxs
structure Rel (F : Fr) (U : US) (ρ : En) (σ : St) (H : Hp) : Prop where
  len : ρ.length = σ.length
  slot : ∀ (i : Nat) (s : Sl) (o : Option V), ρ[i]? = some s → σ[i]? = some o → SlotOk F.K H U s o
  bor : ∀ (i : Nat) (d : D) (o : Option V), ρ[i]? = some (.brw d) → σ[i]? = some o → (∃ v, o = some v ∧ Rp F.K H U d v) ∨ (∃ a, o = some (.ref a) ∧ TopR F.K H U d a ∧ ∀ x, d.reg a x → ¬ Own ρ σ x)
  inj : ∀ (i j : Nat) (s t : Sl) (o o' : Option V) (x : Addr), ρ[i]? = some s → ρ[j]? = some t → σ[i]? = some o → σ[j]? = some o' → s.reg o x → t.reg o' x → i = j
  tr : ∀ a, U a → ∃ o, H a = some o
  keep : ∀ a o, F.H0 a = some o → ¬ F.W0 a → H a = some o
  ktr : ∀ a o, F.H0 a = some o → ∃ o', H a = some o'
  shar : ∀ a o, F.H0 a = some o → ¬ F.U0 a → ¬ U a
  up : ∀ a, F.U0 a → ¬ F.W0 a → U a
  new : ∀ a, Own ρ σ a → F.W0 a ∨ F.H0 a = none
  lock : ∀ (i : Nat) (s : Sl) (l : Option D), ρ[i]? = some s → s.lk = some l → F.L0 i l ∧ σ[i]? = F.S0[i]?
  wu : ∀ a, F.W0 a → F.U0 a
  b0 : ∀ (j : Nat) (d : D), F.L0 j (some d) → (∃ v, F.S0[j]? = some (some v) ∧ Rp F.K F.H0 F.U0 d v) ∨ (∃ (a : Addr), F.S0[j]? = some (some (.ref a)) ∧ ∀ x, d.reg a x → ∃ o, F.H0 x = some o)
  u0 : ∀ a, F.U0 a → ∃ o, F.H0 a = some o

section
variable {K : PySem.W.Frag} {H H' : Hp} {U U' : US} {d : D} {a : Addr}
theorem rpF_rvF : ∀ {ds : List (Str × D)} {vs : List (Str × V)}, RpF K H U ds vs → RvF K H U ds vs
  | [], _, h => by simpa only [RpF, RvF] using h
  | (k, d) :: ds, _, h => by
    simp only [RpF] at h
    obtain ⟨v, r, e, h1, h2⟩ := h
    refine ⟨v, r, e, ?_, rpF_rvF h2⟩
    cases d <;> first | exact h1 | (simp only [Rp] at h1)
theorem TopW.r0 (h : TopW K H U d a) : TopR0 K H U d a := by
  cases d <;> first | exact h.elim | (obtain ⟨vs, h1, h2⟩ := h; first | exact ⟨vs, .inl h1, h2⟩ | exact ⟨vs, h1, h2⟩)
theorem TopW.r (h : TopW K H U d a) : TopR K H U d a := by
  cases d <;> first | exact h.elim | (obtain ⟨vs, h1, h2⟩ := h; first | exact ⟨vs, .inl h1, h2⟩ | (obtain ⟨gs, h1, h2⟩ := (⟨h1, h2⟩ : ∃ gs, _ ∧ _); exact ⟨vs, gs, h1, rpF_rvF h2⟩) | (obtain ⟨h2, h3⟩ := h2; exact ⟨vs, h1, h2, rpF_rvF h3⟩))
theorem ovF_rvF : ∀ {ds : List (Str × D)} {vs : List (Str × V)}, OvF K H U ds vs → RvF K H U ds vs
  | [], _, h => by simpa only [OvF, RvF] using h
  | (k, d) :: ds, _, h => by
    simp only [OvF] at h
    obtain ⟨v, r, e, h1, h2⟩ := h
    refine ⟨v, r, e, ?_, ovF_rvF h2⟩
    cases d <;> first | exact h1 | skip
    obtain ⟨e1, _, t⟩ := h1
    exact ⟨e1, t.r0⟩
theorem TopB.r (h : TopB K H U d a) : TopR K H U d a := by
  cases d <;> first | exact h.elim | skip
  obtain ⟨dx, gs, h1, h2, _⟩ := h
  exact ⟨dx, gs, h1, ovF_rvF h2⟩
theorem TopW.pres (p : Pres H U H' U') (e : ∀ o, H a = some o → H' a = some o) (h : TopW K H U d a) : TopW K H' U' d a := by
  cases d with
  | lst ds => obtain ⟨vs, h1, h2⟩ := h; exact ⟨vs, e _ h1, RpAll.pres p ds vs h2⟩
  | dic ds => obtain ⟨vs, h1, h2⟩ := h; exact ⟨vs, e _ h1, RpK.pres p ds vs h2⟩
  | dit ds => obtain ⟨vs, h1, h2⟩ := h; exact ⟨vs, e _ h1, RpT.pres p ds vs h2⟩
  | din w ds => obtain ⟨vs, h1, h2⟩ := h; exact ⟨vs, e _ h1, RpN.pres p ds vs h2⟩
  | obj C fs => obtain ⟨dx, gs, h1, h2⟩ := h; exact ⟨dx, gs, e _ h1, RpF.pres p fs gs h2⟩
  | _ => exact h.elim
theorem OvF.pres (p : Pres H U H' U') : ∀ {ds : List (Str × D)} {vs : List (Str × V)}, (∀ x, x ∈ bxsF ds → U x → U' x ∧ ∀ o, H x = some o → H' x = some o) → OvF K H U ds vs → OvF K H' U' ds vs
  | [], _, _, h => by simpa only [OvF] using h
  | (k, d) :: ds, _, e, h => by
    simp only [OvF] at h
    obtain ⟨v, r, e1, h1, h2⟩ := h
    cases d with
    | bx b d =>
      obtain ⟨e2, u, t⟩ := h1
      obtain ⟨u', k'⟩ := e b (List.mem_cons_self ..) u
      exact ⟨v, r, e1, ⟨e2, u', t.pres p k'⟩, OvF.pres p (fun x hx => e x (List.mem_cons_of_mem _ hx)) h2⟩
    | _ => exact ⟨v, r, e1, Rp.pres p _ _ h1, OvF.pres p e h2⟩
theorem TopB.pres (p : Pres H U H' U') (e : ∀ o, H a = some o → H' a = some o) (eb : ∀ x, x ∈ d.bxs → U x → U' x ∧ ∀ o, H x = some o → H' x = some o) (h : TopB K H U d a) : TopB K H' U' d a := by
  cases d <;> first | exact h.elim | skip
  obtain ⟨dx, gs, h1, h2, h3⟩ := h
  exact ⟨dx, gs, e _ h1, h2.pres p eb, h3⟩
theorem rd_pres {a : Addr} (e : ∀ o, H a = some o → H' a = some o) : ∀ u, Rd H a u → Rd H' a u := fun u h => h.elim (fun h => .inl (e _ h)) fun ⟨o, h⟩ => .inr ⟨o, e _ h⟩
theorem TopR0.pres (p : Pres H U H' U') (e : ∀ o, H a = some o → H' a = some o) (h : TopR0 K H U d a) : TopR0 K H' U' d a := by
  cases d with
  | lst ds => obtain ⟨vs, h1, h2⟩ := h; exact ⟨vs, rd_pres e _ h1, RpAll.pres p ds vs h2⟩
  | dic ds => obtain ⟨vs, h1, h2⟩ := h; exact ⟨vs, rd_pres e _ h1, RpK.pres p ds vs h2⟩
  | dit ds => obtain ⟨vs, h1, h2⟩ := h; exact ⟨vs, rd_pres e _ h1, RpT.pres p ds vs h2⟩
  | din w ds => obtain ⟨vs, h1, h2⟩ := h; exact ⟨vs, rd_pres e _ h1, RpN.pres p ds vs h2⟩
  | obj C fs => obtain ⟨dx, gs, h1, h2⟩ := h; exact ⟨dx, gs, e _ h1, RpF.pres p fs gs h2⟩
  | _ => exact h.elim
theorem RvF.pres (p : Pres H U H' U') : ∀ {ds : List (Str × D)} {vs : List (Str × V)}, (∀ x, x ∈ bxsF ds → ∀ o, H x = some o → H' x = some o) → RvF K H U ds vs → RvF K H' U' ds vs
  | [], _, _, h => by simpa only [RvF] using h
  | (k, d) :: ds, _, e, h => by
    simp only [RvF] at h
    obtain ⟨v, r, e1, h1, h2⟩ := h
    cases d with
    | bx b d =>
      obtain ⟨e2, t⟩ := h1
      exact ⟨v, r, e1, ⟨e2, t.pres p (e b (List.mem_cons_self ..))⟩, RvF.pres p (fun x hx => e x (List.mem_cons_of_mem _ hx)) h2⟩
    | _ => exact ⟨v, r, e1, Rp.pres p _ _ h1, RvF.pres p e h2⟩
theorem TopR.pres (p : Pres H U H' U') (e : ∀ x, d.reg a x → ∀ o, H x = some o → H' x = some o) (h : TopR K H U d a) : TopR K H' U' d a := by
  have e0 := e a (.inl rfl)
  cases d with
  | lst ds => obtain ⟨vs, h1, h2⟩ := h; exact ⟨vs, rd_pres e0 _ h1, RpAll.pres p ds vs h2⟩
  | dic ds => obtain ⟨vs, h1, h2⟩ := h; exact ⟨vs, rd_pres e0 _ h1, RpK.pres p ds vs h2⟩
  | dit ds => obtain ⟨vs, h1, h2⟩ := h; exact ⟨vs, rd_pres e0 _ h1, RpT.pres p ds vs h2⟩
  | din w ds => obtain ⟨vs, h1, h2⟩ := h; exact ⟨vs, rd_pres e0 _ h1, RpN.pres p ds vs h2⟩
  | obj C fs => obtain ⟨dx, gs, h1, h2⟩ := h; exact ⟨dx, gs, e0 _ h1, h2.pres p fun x hx => e x (.inr hx)⟩
  | _ => exact h.elim
theorem TopR0.some (h : TopR0 K H U d a) : ∃ o, H a = some o := by
  have rd : ∀ u, Rd H a u → ∃ o, H a = Option.some o := fun u h => h.elim (fun h => ⟨_, h⟩) fun ⟨o, h⟩ => ⟨_, h⟩
  cases d with
  | lst ds => obtain ⟨vs, h1, h2⟩ := h; exact rd _ h1
  | dic ds => obtain ⟨vs, h1, h2⟩ := h; exact rd _ h1
  | dit ds => obtain ⟨vs, h1, h2⟩ := h; exact rd _ h1
  | din w ds => obtain ⟨vs, h1, h2⟩ := h; exact rd _ h1
  | obj C fs => obtain ⟨dx, gs, h1, h2⟩ := h; exact ⟨_, h1⟩
  | _ => exact h.elim
theorem RvF.som : ∀ {ds : List (Str × D)} {vs : List (Str × V)}, RvF K H U ds vs → ∀ x, x ∈ bxsF ds → ∃ o, H x = some o
  | [], _, _, x, hx => by cases hx
  | (k, d) :: ds, _, h, x, hx => by
    simp only [RvF] at h
    obtain ⟨v, r, e1, h1, h2⟩ := h
    cases d with
    | bx b d =>
      rcases List.mem_cons.mp hx with e | hx
      · subst e; exact h1.2.some
      · exact h2.som x hx
    | _ => exact h2.som x hx
theorem TopR.some (h : TopR K H U d a) : ∀ x, d.reg a x → ∃ o, H x = some o := by
  have rd : ∀ u, Rd H a u → ∃ o, H a = Option.some o := fun u h => h.elim (fun h => ⟨_, h⟩) fun ⟨o, h⟩ => ⟨_, h⟩
  intro x hx
  cases d with
  | lst ds => obtain ⟨vs, h1, h2⟩ := h; rcases hx with e | hx; (subst e; exact rd _ h1); cases hx
  | dic ds => obtain ⟨vs, h1, h2⟩ := h; rcases hx with e | hx; (subst e; exact rd _ h1); cases hx
  | dit ds => obtain ⟨vs, h1, h2⟩ := h; rcases hx with e | hx; (subst e; exact rd _ h1); cases hx
  | din w ds => obtain ⟨vs, h1, h2⟩ := h; rcases hx with e | hx; (subst e; exact rd _ h1); cases hx
  | obj C fs =>
    obtain ⟨dx, gs, h1, h2⟩ := h
    rcases hx with e | hx
    · subst e; exact ⟨_, h1⟩
    · exact h2.som x hx
  | _ => exact h.elim
theorem TopW.nob (h : TopW K H U d a) : d.bxs = [] := by
  cases d <;> first | rfl | exact h.elim | skip
  obtain ⟨dx, gs, h1, h2⟩ := h
  have go : ∀ {ds : List (Str × D)} {vs : List (Str × V)}, RpF K H U ds vs → bxsF ds = [] := by
    intro ds
    induction ds with
    | nil => intro _ _; rfl
    | cons p ds ih =>
      intro vs h
      obtain ⟨k, d⟩ := p
      simp only [RpF] at h
      obtain ⟨v, r, e1, h1, h2⟩ := h
      cases d <;> first | exact ih h2 | (simp only [Rp] at h1)
  exact go h2
theorem OvF.u : ∀ {ds : List (Str × D)} {vs : List (Str × V)}, OvF K H U ds vs → ∀ x, x ∈ bxsF ds → U x
  | [], _, _, x, hx => by cases hx
  | (k, d) :: ds, _, h, x, hx => by
    simp only [OvF] at h
    obtain ⟨v, r, e1, h1, h2⟩ := h
    cases d with
    | bx b d =>
      rcases List.mem_cons.mp hx with e | hx
      · subst e; exact h1.2.1
      · exact h2.u x hx
    | _ => exact h2.u x hx
theorem TopB.u (h : TopB K H U d a) : ∀ x, x ∈ d.bxs → U x := by
  cases d <;> first | exact h.elim | skip
  obtain ⟨dx, gs, h1, h2, h3⟩ := h
  exact h2.u
theorem SlotOk.regU {s : Sl} {o : Option V} (h : SlotOk K H U s o) {x : Addr} (r : s.reg o x) : U x := by
  obtain ⟨w, r⟩ := r
  cases s with
  | own d => obtain ⟨b, e, u, _⟩ := h; rcases r with r | r; (rw [e] at r; cases r; exact u); cases r
  | par d => obtain ⟨b, e, u, _⟩ := h; rcases r with r | r; (rw [e] at r; cases r; exact u); cases r
  | owb d => obtain ⟨b, e, u, t⟩ := h; rcases r with r | r; (rw [e] at r; cases r; exact u); exact t.u x r
  | pab d => obtain ⟨b, e, u, t⟩ := h; rcases r with r | r; (rw [e] at r; cases r; exact u); exact t.u x r
  | _ => cases w
/-- a slot's data stays if what it owns stays -/
theorem SlotOk.pres (p : Pres H U H' U') {s : Sl} {o : Option V} (e : ∀ x, s.reg o x → U x → U' x ∧ ∀ u, H x = some u → H' x = some u) (h : SlotOk K H U s o) : SlotOk K H' U' s o := by
  cases s with
  | emp => trivial
  | brw d => trivial
  | shr d => obtain ⟨v, e1, q⟩ := h; exact ⟨v, e1, Rp.pres p d v q⟩
  | own d => obtain ⟨a, rfl, u, q⟩ := h; obtain ⟨u', k⟩ := e a ⟨rfl, .inl rfl⟩ u; exact ⟨a, rfl, u', q.pres p k⟩
  | par d => obtain ⟨a, rfl, u, q⟩ := h; obtain ⟨u', k⟩ := e a ⟨rfl, .inl rfl⟩ u; exact ⟨a, rfl, u', q.pres p k⟩
  | owb d => obtain ⟨a, rfl, u, q⟩ := h; obtain ⟨u', k⟩ := e a ⟨rfl, .inl rfl⟩ u; exact ⟨a, rfl, u', q.pres p k fun x hx => e x ⟨rfl, .inr hx⟩⟩
  | pab d => obtain ⟨a, rfl, u, q⟩ := h; obtain ⟨u', k⟩ := e a ⟨rfl, .inl rfl⟩ u; exact ⟨a, rfl, u', q.pres p k fun x hx => e x ⟨rfl, .inr hx⟩⟩
theorem SlotOk.ref {s : Sl} {o : Option V} (h : SlotOk K H U s o) (w : s.isW = true) : ∃ a, o = some (.ref a) ∧ U a := by
  cases s with
  | own d => obtain ⟨a, e, u, _⟩ := h; exact ⟨a, e, u⟩
  | par d => obtain ⟨a, e, u, _⟩ := h; exact ⟨a, e, u⟩
  | owb d => obtain ⟨a, e, u, _⟩ := h; exact ⟨a, e, u⟩
  | pab d => obtain ⟨a, e, u, _⟩ := h; exact ⟨a, e, u⟩
  | _ => cases w
end
theorem set_get {α : Type} {l : List α} {i j : Nat} {x y : α} (h : (l.set i x)[j]? = some y) : (i = j ∧ y = x ∧ i < l.length) ∨ (i ≠ j ∧ l[j]? = some y) := by
  by_cases e : i = j
  · subst e
    by_cases hl : i < l.length
    · rw [List.getElem?_set_self hl] at h
      exact .inl ⟨rfl, (Option.some.inj h).symm, hl⟩
    · rw [List.getElem?_eq_none (by rw [List.length_set]; omega)] at h
      cases h
  · rw [List.getElem?_set_ne e] at h
    exact .inr ⟨e, h⟩
theorem reg_noW {s : Sl} {o : Option V} {x : Addr} (h : s.isW = false) : ¬ s.reg o x := fun r => by rw [r.1] at h; cases h

section
variable {F : Fr} {U U' : US} {ρ ρ' : En} {σ : St} {H H' : Hp}
theorem Rel.ownU (R : Rel F U ρ σ H) {a : Addr} (h : Own ρ σ a) : U a := by
  obtain ⟨i, s, o, h1, h2, h3⟩ := h
  exact (R.slot i s _ h1 h2).regU h3
/-- what is owned did not stand as shared at the start -/
theorem Rel.own0 (R : Rel F U ρ σ H) {a : Addr} (h : Own ρ σ a) (u : F.U0 a) : F.W0 a := by
  rcases R.new a h with z | z
  · exact z
  · obtain ⟨o, e⟩ := R.u0 a u
    rw [z] at e; cases e
/-- the frame's slots after a change that keeps what stands -/
theorem Rel.ext (R : Rel F U ρ σ H) (e : ∀ a o, H a = some o → H' a = some o) : Rel F U ρ σ H' := by
  have p : Pres H U H' U := fun a o h n => ⟨e a o h, n⟩
  refine ⟨R.len, fun i s o h1 h2 => (R.slot i s o h1 h2).pres p fun x _ u => ⟨u, e x⟩, fun i d o h1 h2 => ?_, R.inj, fun a h => ?_, fun a o h n => e a o (R.keep a o h n), fun a o h => ?_, R.shar, R.up, R.new, R.lock, R.wu, R.b0, R.u0⟩
  · rcases R.bor i d o h1 h2 with ⟨v, e1, q⟩ | ⟨a, e1, q, n⟩
    · exact .inl ⟨v, e1, Rp.pres p d v q⟩
    · exact .inr ⟨a, e1, q.pres p fun x _ => e x, n⟩
  · obtain ⟨o, h⟩ := R.tr a h
    exact ⟨o, e a o h⟩
  · obtain ⟨o', h⟩ := R.ktr a o h
    exact ⟨o', e a o' h⟩
theorem Rel.fresh (R : Rel F U ρ σ H) {a : Addr} (h : H a = none) : ¬ U a := fun u => by
  obtain ⟨o, e⟩ := R.tr a u
  rw [h] at e; cases e
theorem ext_new {H : Hp} {p : Addr} {o : HO} (h : H p = none) : ∀ a u, H a = some u → upd H p o a = some u := fun a u e => by
  rw [upd_ne (ne_of_none e h)]; exact e
theorem reg_upd {s : Sl} {d' : D} {o : Option V} {x : Addr} (h : (s.upd d').reg o x) (hb : ∀ y, y ∈ (s.upd d').bxs → y ∈ s.bxs) : s.reg o x := by
  obtain ⟨w, h⟩ := h
  refine ⟨?_, h.imp id (hb x)⟩
  cases s <;> first | rfl | exact w
theorem isW_upd {s : Sl} {d' : D} : (s.upd d').isW = s.isW := by cases s <;> rfl
theorem lk_upd {s : Sl} {d' : D} (h : s.isW = true) : (s.upd d').lk = s.lk := by cases s <;> first | rfl | cases h
/-- an owned object of slot i (its root or a box) is written -/
theorem Rel.writeX (R : Rel F U ρ σ H) {i : Nat} {s : Sl} {a x : Addr} {d' : D} {o' : HO} (h1 : ρ[i]? = some s) (h2 : s.isW = true) (h3 : σ[i]? = some (some (.ref a))) (hx : s.reg (some (.ref a)) x)
    (hb : ∀ y, y ∈ (s.upd d').bxs → y ∈ s.bxs) (new : SlotOk F.K (upd H x o') U (s.upd d') (some (.ref a))) : Rel F U (ρ.set i (s.upd d')) σ (upd H x o') := by
  have hox : Own ρ σ x := ⟨i, s, _, h1, h3, hx⟩
  have hu : U x := R.ownU hox
  have hi : i < ρ.length := (List.getElem?_eq_some_iff.mp h1).1
  have p : Pres H U (upd H x o') U := fun y o h n => ⟨by
    have nx : y ≠ x := fun e => n (by rw [e]; exact hu)
    rw [upd_ne nx]
    exact h, n⟩
  have own' : ∀ y, Own (ρ.set i (s.upd d')) σ y → Own ρ σ y := fun y => by
    rintro ⟨j, t, o, q1, q2, q3⟩
    rcases set_get q1 with ⟨e, rfl, _⟩ | ⟨_, q1⟩
    · subst e; exact ⟨i, s, o, h1, q2, reg_upd q3 hb⟩
    · exact ⟨j, t, o, q1, q2, q3⟩
  refine ⟨by rw [List.length_set]; exact R.len, fun j t o q1 q2 => ?_, fun j d o q1 q2 => ?_, fun j k t u o o2 b q1 q2 q3 q4 q5 q6 => ?_, fun y u => ?_, fun y o q n => ?_, fun y o q => ?_, R.shar, R.up, fun y q => R.new y (own' y q), fun j t l q1 q2 => ?_, R.wu, R.b0, R.u0⟩
  · rcases set_get q1 with ⟨e, rfl, _⟩ | ⟨ne, q1⟩
    · subst e
      rw [h3] at q2; cases q2
      exact new
    · refine (R.slot j t o q1 q2).pres p fun y hy u => ⟨u, fun w hw => ?_⟩
      have nb : y ≠ x := fun e => ne (R.inj i j s t _ _ x h1 q1 h3 q2 hx (e ▸ hy))
      rw [upd_ne nb]; exact hw
  · rcases set_get q1 with ⟨e, e2, _⟩ | ⟨ne, q1⟩
    · have : (s.upd d').isW = true := isW_upd.trans h2
      rw [← e2] at this; cases this
    · rcases R.bor j d o q1 q2 with ⟨v, e1, q⟩ | ⟨b, e1, q, n⟩
      · exact .inl ⟨v, e1, Rp.pres p d v q⟩
      · refine .inr ⟨b, e1, q.pres p (fun y hy w hw => ?_), fun y hy z => n y hy (own' y z)⟩
        have nb : y ≠ x := fun e => n y hy (by rw [e]; exact hox)
        rw [upd_ne nb]; exact hw
  · have f : ∀ {j : Nat} {t : Sl} {o : Option V}, (ρ.set i (s.upd d'))[j]? = some t → t.reg o b → ∃ t' : Sl, ρ[j]? = some t' ∧ t'.reg o b := fun {j t o} q1 q3 => by
      rcases set_get q1 with ⟨e, rfl, _⟩ | ⟨ne, q1⟩
      · subst e; exact ⟨s, h1, reg_upd q3 hb⟩
      · exact ⟨t, q1, q3⟩
    obtain ⟨t', z1, z2⟩ := f q1 q5
    obtain ⟨u', z3, z4⟩ := f q2 q6
    exact R.inj j k t' u' o o2 b z1 z3 q3 q4 z2 z4
  · by_cases e : y = x
    · subst e; exact ⟨_, upd_same⟩
    · obtain ⟨o, h⟩ := R.tr y u
      exact ⟨o, by rw [upd_ne e]; exact h⟩
  · have nx : y ≠ x := fun e => by
      subst e
      rcases R.new y hox with z | z
      · exact n z
      · rw [z] at q; cases q
    rw [upd_ne nx]; exact R.keep y o q n
  · by_cases e : y = x
    · subst e; exact ⟨_, upd_same⟩
    · obtain ⟨o', h⟩ := R.ktr y o q
      exact ⟨o', by rw [upd_ne e]; exact h⟩
  · rcases set_get q1 with ⟨e, rfl, _⟩ | ⟨ne, q1⟩
    · subst e; rw [lk_upd h2] at q2; exact R.lock i s l h1 q2
    · exact R.lock j t l q1 q2
def Sl.flat : Sl → Bool
  | .owb _ => false
  | .pab _ => false
  | _ => true
theorem flat_bxs {s : Sl} (h : s.flat = true) : s.bxs = [] := by cases s <;> first | rfl | cases h
theorem flat_upd {s : Sl} {d : D} : (s.upd d).flat = s.flat := by cases s <;> rfl
theorem flat_ok {K : PySem.W.Frag} {s : Sl} {d : D} {a : Addr} (w : s.isW = true) (f : s.flat = true) (u : U a) (t : TopW K H U d a) : SlotOk K H U (s.upd d) (some (.ref a)) := by
  cases s <;> first | exact ⟨a, rfl, u, t⟩ | (cases f; done) | (cases w; done)
/-- an owned object is written -/
theorem Rel.write (R : Rel F U ρ σ H) {i : Nat} {s : Sl} {a : Addr} {d' : D} {o' : HO} (h1 : ρ[i]? = some s) (h2 : s.isW = true) (hf : s.flat = true) (h3 : σ[i]? = some (some (.ref a)))
    (new : TopW F.K (upd H a o') U d' a) : Rel F U (ρ.set i (s.upd d')) σ (upd H a o') :=
  R.writeX h1 h2 h3 ⟨h2, .inl rfl⟩ (fun y hy => by rw [flat_bxs (flat_upd.trans hf)] at hy; cases hy) (flat_ok h2 hf (R.ownU (Own.root h1 h2 h3)) new)
/-- a slot that is not locked gets something that owns nothing -/
theorem Rel.setNo (R : Rel F U ρ σ H) {i : Nat} {s s' : Sl} {o' : Option V} (h1 : ρ[i]? = some s) (h2 : s.locked = false) (hw : s'.isW = false) (hl : s'.lk = none) (ok : SlotOk F.K H U s' o') : Rel F U (ρ.set i s') (σ.set i o') H := by
  have hi : i < σ.length := by rw [← R.len]; exact (List.getElem?_eq_some_iff.mp h1).1
  have own' : ∀ x, Own (ρ.set i s') (σ.set i o') x → Own ρ σ x := fun x ⟨j, t, o, q1, q2, q3⟩ => by
    rcases set_get q1 with ⟨e, rfl, _⟩ | ⟨ne, q1⟩
    · exact absurd q3 (reg_noW hw)
    · rw [List.getElem?_set_ne ne] at q2
      exact ⟨j, t, o, q1, q2, q3⟩
  refine ⟨by rw [List.length_set, List.length_set]; exact R.len, fun j t o q1 q2 => ?_, fun j d' o q1 q2 => ?_, fun j k t u o o2 b q1 q2 q3 q4 q5 q6 => ?_, R.tr, R.keep, R.ktr, R.shar, R.up, fun x q => R.new x (own' x q), fun j t l q1 q2 => ?_, R.wu, R.b0, R.u0⟩
  · rcases set_get q1 with ⟨e, rfl, _⟩ | ⟨ne, q1⟩
    · subst e
      rw [List.getElem?_set_self hi] at q2; cases q2
      exact ok
    · rw [List.getElem?_set_ne ne] at q2
      exact R.slot j t o q1 q2
  · rcases set_get q1 with ⟨e, e2, _⟩ | ⟨ne, q1⟩
    · rw [← e2] at hl; cases hl
    · rw [List.getElem?_set_ne ne] at q2
      rcases R.bor j d' o q1 q2 with z | ⟨b, e1, q, n⟩
      · exact .inl z
      · exact .inr ⟨b, e1, q, fun y hy z => n y hy (own' y z)⟩
  · rcases set_get q1 with ⟨e, rfl, _⟩ | ⟨ne, q1⟩
    · exact absurd q5 (reg_noW hw)
    · rcases set_get q2 with ⟨e, rfl, _⟩ | ⟨ne2, q2⟩
      · exact absurd q6 (reg_noW hw)
      · rw [List.getElem?_set_ne ne] at q3
        rw [List.getElem?_set_ne ne2] at q4
        exact R.inj j k t u o o2 b q1 q2 q3 q4 q5 q6
  · rcases set_get q1 with ⟨e, rfl, _⟩ | ⟨ne, q1⟩
    · rw [hl] at q2; cases q2
    · rw [List.getElem?_set_ne ne]
      exact R.lock j t l q1 q2
/-- a slot that is not locked gets a shared value -/
theorem Rel.setShr (R : Rel F U ρ σ H) {i : Nat} {s : Sl} {d : D} {v : V} (h1 : ρ[i]? = some s) (h2 : s.locked = false) (r : Rp F.K H U d v) : Rel F U (ρ.set i (.shr d)) (σ.set i (some v)) H :=
  R.setNo h1 h2 rfl rfl ⟨v, rfl, r⟩
/-- .. is emptied -/
theorem Rel.setEmp (R : Rel F U ρ σ H) {i : Nat} {s : Sl} {o : Option V} (h1 : ρ[i]? = some s) (h2 : s.locked = false) : Rel F U (ρ.set i .emp) (σ.set i o) H :=
  R.setNo h1 h2 rfl rfl trivial
/-- a new object, owned by nobody yet, of which nobody else knows -/
structure Fresh (F : Fr) (U : US) (H : Hp) (d : D) (a : Addr) : Prop where
  top : TopW F.K H U d a
  u : U a
  new : F.H0 a = none
/-- a slot that is not locked gets a new object, with its boxes -/
theorem Rel.setNew (R : Rel F U ρ σ H) {i : Nat} {s s' : Sl} {a : Addr} (h1 : ρ[i]? = some s) (h2 : s.locked = false) (hl : s'.lk = none) (ok : SlotOk F.K H U s' (some (.ref a))) (nw : ∀ x, s'.reg (some (.ref a)) x → F.W0 x ∨ F.H0 x = none) (no : ∀ x, s'.reg (some (.ref a)) x → ¬ Own ρ σ x)
    (nb : ∀ (j : Nat) (e : D), ρ[j]? = some (.brw e) → ∀ b, σ[j]? = some (some (.ref b)) → (∃ x, e.reg b x ∧ s'.reg (some (.ref a)) x) → Rp F.K H U e (.ref b)) : Rel F U (ρ.set i s') (σ.set i (some (.ref a))) H := by
  have hi : i < σ.length := by rw [← R.len]; exact (List.getElem?_eq_some_iff.mp h1).1
  have own' : ∀ x, Own (ρ.set i s') (σ.set i (some (.ref a))) x → Own ρ σ x ∨ s'.reg (some (.ref a)) x := fun x ⟨j, t, o, q1, q2, q3⟩ => by
    rcases set_get q1 with ⟨e, rfl, _⟩ | ⟨ne, q1⟩
    · subst e
      rw [List.getElem?_set_self hi] at q2
      cases q2
      exact .inr q3
    · rw [List.getElem?_set_ne ne] at q2
      exact .inl ⟨j, t, o, q1, q2, q3⟩
  refine ⟨by rw [List.length_set, List.length_set]; exact R.len, fun j t o q1 q2 => ?_, fun j d' o q1 q2 => ?_, fun j k t u o o2 b q1 q2 q3 q4 q5 q6 => ?_, R.tr, R.keep, R.ktr, R.shar, R.up, fun x q => ?_, fun j t l q1 q2 => ?_, R.wu, R.b0, R.u0⟩
  · rcases set_get q1 with ⟨e, rfl, _⟩ | ⟨ne, q1⟩
    · subst e
      rw [List.getElem?_set_self hi] at q2; cases q2
      exact ok
    · rw [List.getElem?_set_ne ne] at q2
      exact R.slot j t o q1 q2
  · rcases set_get q1 with ⟨e, e2, _⟩ | ⟨ne, q1⟩
    · rw [← e2] at hl; cases hl
    · rw [List.getElem?_set_ne ne] at q2
      rcases R.bor j d' o q1 q2 with z | ⟨b, e1, q, n⟩
      · exact .inl z
      · by_cases ex : ∃ x, d'.reg b x ∧ s'.reg (some (.ref a)) x
        · subst e1
          exact .inl ⟨_, rfl, nb j d' q1 b q2 ex⟩
        · exact .inr ⟨b, e1, q, fun y hy z => (own' y z).elim (n y hy) fun w => ex ⟨y, hy, w⟩⟩
  · rcases set_get q1 with ⟨e, rfl, _⟩ | ⟨ne, q1'⟩
    · rcases set_get q2 with ⟨e2, rfl, _⟩ | ⟨ne2, q2⟩
      · omega
      · subst e
        rw [List.getElem?_set_self hi] at q3; cases q3
        rw [List.getElem?_set_ne ne2] at q4
        exact absurd ⟨k, u, o2, q2, q4, q6⟩ (no b q5)
    · rcases set_get q2 with ⟨e2, e3, _⟩ | ⟨ne2, q2'⟩
      · subst e2
        rw [List.getElem?_set_self hi] at q4; cases q4
        rw [List.getElem?_set_ne ne] at q3
        rw [e3] at q6
        exact absurd ⟨j, t, o, q1', q3, q5⟩ (no b q6)
      · rw [List.getElem?_set_ne ne] at q3
        rw [List.getElem?_set_ne ne2] at q4
        exact R.inj j k t u o o2 b q1' q2' q3 q4 q5 q6
  · rcases own' x q with z | z
    · exact R.new x z
    · exact nw x z
  · rcases set_get q1 with ⟨e, rfl, _⟩ | ⟨ne, q1⟩
    · rw [hl] at q2; cases q2
    · rw [List.getElem?_set_ne ne]
      exact R.lock j t l q1 q2
theorem reg_own {d : D} {a x : Addr} (h : (Sl.own d).reg (some (.ref a)) x) : x = a := by
  rcases h.2 with h | h
  · cases h; rfl
  · cases h
theorem reg_flat {s : Sl} (f : s.flat = true) {a x : Addr} (h : s.reg (some (.ref a)) x) : x = a := by
  rcases h.2 with h | h
  · cases h; rfl
  · rw [flat_bxs f] at h; cases h
/-- a slot that is not locked gets a new object -/
theorem Rel.setOwn (R : Rel F U ρ σ H) {i : Nat} {s : Sl} {d : D} {a : Addr} (h1 : ρ[i]? = some s) (h2 : s.locked = false) (r : Fresh F U H d a) (no : ¬ Own ρ σ a)
    (nb : ∀ (j : Nat) (e : D), ρ[j]? = some (.brw e) → ∀ b, σ[j]? = some (some (.ref b)) → e.reg b a → Rp F.K H U e (.ref b)) : Rel F U (ρ.set i (.own d)) (σ.set i (some (.ref a))) H :=
  R.setNew h1 h2 rfl ⟨a, rfl, r.u, r.top⟩ (fun x hx => by rw [reg_own hx]; exact .inr r.new) (fun x hx => by rw [reg_own hx]; exact no) fun j e q1 b q2 ⟨x, hx, hy⟩ => nb j e q1 b q2 (by rw [← reg_own hy]; exact hx)
/-- U may grow by objects that nobody knows yet -/
theorem Rel.growX (R : Rel F U ρ σ H) {N : Addr → Prop} (hn : ∀ a, N a → H a = none) (e : ∀ b u, H b = some u → H' b = some u) (ha : ∀ a, N a → ∃ o, H' a = some o) : Rel F (fun b => U b ∨ N b) ρ σ H' := by
  have p : Pres H U H' (fun b => U b ∨ N b) := fun x u h n => ⟨e x u h, fun z => z.elim n fun q => by rw [hn x q] at h; cases h⟩
  refine ⟨R.len, fun i s o h1 h2 => (R.slot i s o h1 h2).pres p fun x _ u => ⟨.inl u, e x⟩, fun i d o h1 h2 => ?_, R.inj, fun b h => ?_, fun a o h n => e a o (R.keep a o h n), fun a o h => ?_, fun b u h n z => ?_, fun b h w => .inl (R.up b h w), R.new, R.lock, R.wu, R.b0, R.u0⟩
  · rcases R.bor i d o h1 h2 with ⟨v, e1, q⟩ | ⟨b, e1, q, n⟩
    · exact .inl ⟨v, e1, Rp.pres p d v q⟩
    · exact .inr ⟨b, e1, q.pres p fun x _ => e x, n⟩
  · rcases h with h | h
    · obtain ⟨o, h⟩ := R.tr b h
      exact ⟨o, e b o h⟩
    · exact ha b h
  · obtain ⟨o', h⟩ := R.ktr a o h
    exact ⟨o', e a o' h⟩
  · rcases z with z | z
    · exact R.shar b u h n z
    · obtain ⟨o', h'⟩ := R.ktr b u h
      rw [hn b z] at h'; cases h'
theorem Rel.grow (R : Rel F U ρ σ H) {a : Addr} {o : HO} (hn : H a = none) (e : ∀ b u, H b = some u → H' b = some u) (ha : H' a = some o) : Rel F (fun b => U b ∨ b = a) ρ σ H' :=
  R.growX (N := fun b => b = a) (fun b h => by rw [h]; exact hn) e fun b h => ⟨o, by rw [h]; exact ha⟩
/-- U may shrink to what is owned and what the frame began with -/
theorem Rel.shrink (R : Rel F U' ρ σ H) (le : ∀ a, U a → U' a) (up : ∀ a, F.U0 a → ¬ F.W0 a → U a) (own : ∀ a, Own ρ σ a → U a) : Rel F U ρ σ H := by
  have p : Pres H U' H U := fun x u h n => ⟨h, fun z => n (le x z)⟩
  refine ⟨R.len, fun i s o h1 h2 => (R.slot i s o h1 h2).pres p fun x hx _ => ⟨own x ⟨i, s, o, h1, h2, hx⟩, fun _ z => z⟩, fun i d o h1 h2 => ?_, R.inj, fun b h => R.tr b (le b h), R.keep, R.ktr, fun b u h n z => R.shar b u h n (le b z), up, R.new, R.lock, R.wu, R.b0, R.u0⟩
  · rcases R.bor i d o h1 h2 with ⟨v, e1, q⟩ | ⟨b, e1, q, n⟩
    · exact .inl ⟨v, e1, Rp.pres p d v q⟩
    · exact .inr ⟨b, e1, q.pres p (fun _ _ _ z => z), n⟩
/-- what the frame began with still stands -/
theorem Rel.pres0 (R : Rel F U ρ σ H) : Pres F.H0 F.U0 H U := fun a o h n => ⟨R.keep a o h fun w => n (R.wu a w), R.shar a o h n⟩
end
end L3

set_option Elab.async false
set_option linter.all false
set_option maxRecDepth 100000
namespace L3
open PySem L2

/-! ### what an expression gives: a shared value, or what an owned (lent) slot holds -/
inductive Rs where
  | val (d : D) | sl (i : Nat) | bx (i : Nat) (f : Str) (b : Addr)
/-- the box in the field f of what slot i holds -/
def boxOf (ρ : En) (i : Nat) (f : Str) : Option (Addr × D) := match ρ[i]? with
  | some s => match s.dat with
    | some (.obj _ fs) => match fs.lookup f with
      | some (.bx b d) => some (b, d)
      | _ => none
    | _ => none
  | none => none
def isBrw (ρ : En) (i : Nat) : Bool := match ρ[i]? with
  | some (.brw _) => true
  | _ => false
def Rs.dat (ρ : En) : Rs → Option D
  | .val d => some d
  | .bx i f b => match boxOf ρ i f with
    | some (b', d) => if b' = b then some d else none
    | none => none
  | .sl i => match ρ[i]? with
    | some s => s.dat
    | none => none
/-- .. not of a lent slot -/
def Sl.datN : Sl → Option D
  | .brw _ => none
  | .owb _ => none
  | .pab _ => none
  | s => s.dat
def Rs.datN (ρ : En) : Rs → Option D
  | .val d => some d
  | .bx i f b => if isBrw ρ i then none else match boxOf ρ i f with
    | some (b', d) => if b' = b then some d else none
    | none => none
  | .sl i => match ρ[i]? with
    | some s => s.datN
    | none => none
def RV (F : Fr) (U : US) (σ : St) (H : Hp) : Rs → V → Prop
  | .val d, v => Rp F.K H U d v
  | .bx _ _ b, v => v = .ref b
  | .sl i, v => σ[i]? = some (some v)
structure Stp (ρ : En) (σ : St) (H : Hp) (ρ' : En) (H' : Hp) : Prop where
  keep : ∀ a o, H a = some o → ¬ Own ρ σ a → H' a = some o
  own : ∀ a, Own ρ' σ a → Own ρ σ a
  tr : ∀ a o, H a = some o → ∃ o', H' a = some o'
abbrev T3E := En → (Rs → En → Prop) → Prop
abbrev T3T := En → (Bool → En → Prop) → Prop
abbrev T3A := En → (List Rs → En → Prop) → Prop
/-- what follows, at both levels -/
abbrev KE (F : Fr) (U : US) (ρ : En) (σ : St) (H : Hp) (Q3 : Rs → En → Prop) (Q2 : VK) : Prop :=
  ∀ r v ρ' H', Rel F U ρ' σ H' → Stp ρ σ H ρ' H' → RV F U σ H' r v → Q3 r ρ' → Q2 v H'
def SimE (K : PySem.W.Frag) (t2 : TE) (t3 : T3E) : Prop :=
  ∀ (F : Fr) (U : US) (ρ : En) (σ : St) (H : Hp) (Q3 : Rs → En → Prop) (Q2 : VK), F.K = K → Rel F U ρ σ H → t3 ρ Q3 → KE F U ρ σ H Q3 Q2 → t2 σ H Q2
def SimT (K : PySem.W.Frag) (t2 : TT) (t3 : T3T) : Prop :=
  ∀ (F : Fr) (U : US) (ρ : En) (σ : St) (H : Hp) (Q3 : Bool → En → Prop) (Q2 : Bool → Hp → Prop), F.K = K → Rel F U ρ σ H → t3 ρ Q3 →
    (∀ b ρ' H', Rel F U ρ' σ H' → Stp ρ σ H ρ' H' → Q3 b ρ' → Q2 b H') → t2 σ H Q2
inductive RVs (F : Fr) (U : US) (σ : St) (H : Hp) : List Rs → List V → Prop
  | nil : RVs F U σ H [] []
  | cons {r : Rs} {v : V} {rs : List Rs} {vs : List V} : RV F U σ H r v → RVs F U σ H rs vs → RVs F U σ H (r :: rs) (v :: vs)
def SimA (K : PySem.W.Frag) (t2 : TA) (t3 : T3A) : Prop :=
  ∀ (F : Fr) (U : US) (ρ : En) (σ : St) (H : Hp) (Q3 : List Rs → En → Prop) (Q2 : List V → Hp → Prop), F.K = K → Rel F U ρ σ H → t3 ρ Q3 →
    (∀ rs vs ρ' H', Rel F U ρ' σ H' → Stp ρ σ H ρ' H' → RVs F U σ H' rs vs → Q3 rs ρ' → Q2 vs H') → t2 σ H Q2
/-- a two-place operation on values -/
def SimR2 (K : PySem.W.Frag) (r2 : R2) (r3 : Rs → Rs → En → (Rs → En → Prop) → Prop) : Prop :=
  ∀ (F : Fr) (U : US) (ρ : En) (σ : St) (H : Hp) (x y : V) (rx ry : Rs) (Q3 : Rs → En → Prop) (Q2 : VK), F.K = K → Rel F U ρ σ H → RV F U σ H rx x → RV F U σ H ry y → r3 rx ry ρ Q3 → KE F U ρ σ H Q3 Q2 → r2 x y H Q2
/-- a call by values -/
def SimCR (K : PySem.W.Frag) (r2 : List V → Hp → VK → Prop) (r3 : List Rs → En → (Rs → En → Prop) → Prop) : Prop :=
  ∀ (F : Fr) (U : US) (ρ : En) (σ : St) (H : Hp) (vs : List V) (rs : List Rs) (Q3 : Rs → En → Prop) (Q2 : VK), F.K = K → Rel F U ρ σ H → RVs F U σ H rs vs → r3 rs ρ Q3 → KE F U ρ σ H Q3 Q2 → r2 vs H Q2

section
variable {F : Fr} {U : US} {ρ ρ' ρ2 : En} {σ : St} {H H' H2 : Hp} {K : PySem.W.Frag}
theorem Stp.refl (R : Rel F U ρ σ H) : Stp ρ σ H ρ H := ⟨fun _ _ h _ => h, fun _ h => h, fun _ o h => ⟨o, h⟩⟩
theorem Stp.trans (a : Stp ρ σ H ρ' H') (b : Stp ρ' σ H' ρ2 H2) : Stp ρ σ H ρ2 H2 :=
  ⟨fun x o h n => b.keep x o (a.keep x o h n) fun z => n (a.own x z), fun x z => a.own x (b.own x z), fun x o h => let ⟨o', h'⟩ := a.tr x o h; b.tr x o' h'⟩
theorem Stp.pres (s : Stp ρ σ H ρ' H') (R : Rel F U ρ σ H) : Pres H U H' U := fun a o h n => ⟨s.keep a o h fun z => n (R.ownU z), n⟩
theorem Stp.ext (e : ∀ a o, H a = some o → H' a = some o) : Stp ρ σ H ρ H' := ⟨fun a o h _ => e a o h, fun _ h => h, fun a o h => ⟨o, e a o h⟩⟩
theorem RV.pres {r : Rs} {v : V} (h : RV F U σ H r v) (p : Pres H U H' U) : RV F U σ H' r v := by
  cases r with
  | val d => exact Rp.pres p d v h
  | sl i => exact h
  | bx i f b => exact h
theorem RVs.pres {rs : List Rs} {vs : List V} (h : RVs F U σ H rs vs) (p : Pres H U H' U) : RVs F U σ H' rs vs := by
  induction h with
  | nil => exact .nil
  | cons h _ ih => exact .cons (h.pres p) ih
theorem RvF.get : ∀ {ds : List (Str × D)} {vs : List (Str × V)} {f : Str} {d : D}, RvF K H U ds vs → ds.lookup f = some d → ∃ v, vs.lookup f = some v ∧ Rv K H U d v
  | [], _, _, _, _, e => by cases e
  | (k, d) :: ds, _, f, d', h, e => by
    simp only [RvF] at h
    obtain ⟨v, r, rfl, h1, h2⟩ := h
    rw [List.lookup_cons] at e ⊢
    cases hk : (f == k) with
    | true => rw [hk] at e; cases e; exact ⟨v, rfl, h1⟩
    | false => rw [hk] at e; exact RvF.get h2 e
theorem OvF.get : ∀ {ds : List (Str × D)} {vs : List (Str × V)} {f : Str} {d : D}, OvF K H U ds vs → ds.lookup f = some d → ∃ v, vs.lookup f = some v ∧ Ov K H U d v
  | [], _, _, _, _, e => by cases e
  | (k, d) :: ds, _, f, d', h, e => by
    simp only [OvF] at h
    obtain ⟨v, r, rfl, h1, h2⟩ := h
    rw [List.lookup_cons] at e ⊢
    cases hk : (f == k) with
    | true => rw [hk] at e; cases e; exact ⟨v, rfl, h1⟩
    | false => rw [hk] at e; exact OvF.get h2 e
theorem TopR0.r {d : D} {a : Addr} (h : TopR0 K H U d a) : TopR K H U d a := by
  cases d with
  | obj C fs => obtain ⟨dx, gs, h1, h2⟩ := h; exact ⟨dx, gs, h1, rpF_rvF h2⟩
  | _ => exact h
theorem boxOf_out {ρ : En} {i : Nat} {f : Str} {b : Addr} {d : D} (h : boxOf ρ i f = some (b, d)) : ∃ s C fs, ρ[i]? = some s ∧ s.dat = some (.obj C fs) ∧ fs.lookup f = some (.bx b d) := by
  unfold boxOf at h
  cases hs : ρ[i]? with
  | none => rw [hs] at h; cases h
  | some s =>
    rw [hs] at h
    refine ⟨s, ?_⟩
    cases hd : s.dat with
    | none => simp [hd] at h
    | some e =>
      cases e with
      | obj C fs =>
        simp only [hd] at h
        refine ⟨C, fs, rfl, rfl, ?_⟩
        cases hl : fs.lookup f with
        | none => simp [hl] at h
        | some e2 =>
          cases e2 <;> simp [hl] at h
          obtain ⟨rfl, rfl⟩ := h
          rfl
      | _ => simp [hd] at h
theorem noBx {b : Addr} {d : D} {v : V} (h : Rp K H U (.bx b d) v) : False := by simp only [Rp] at h
theorem RpF.noBx {fs : List (Str × D)} {gs : List (Str × V)} {f : Str} {b : Addr} {d : D} (h : RpF K H U fs gs) (e : fs.lookup f = some (.bx b d)) : False := by
  induction fs generalizing gs with
  | nil => cases e
  | cons p fs ih =>
    obtain ⟨k, d'⟩ := p
    simp only [RpF] at h
    obtain ⟨v, r, rfl, h1, h2⟩ := h
    rw [List.lookup_cons] at e
    cases hk : (f == k) with
    | true => rw [hk] at e; cases e; exact L3.noBx h1
    | false => rw [hk] at e; exact ih h2 e
/-- a box of a slot -/
theorem Rel.box (R : Rel F U ρ σ H) {i : Nat} {f : Str} {b : Addr} {d : D} (h : boxOf ρ i f = some (b, d)) : TopR F.K H U d b ∧ (isBrw ρ i = false → ∃ s C fs a, ρ[i]? = some s ∧ s.isW = true ∧ s.flat = false ∧ s.dat = some (.obj C fs) ∧ fs.lookup f = some (.bx b d) ∧ σ[i]? = some (some (.ref a)) ∧ TopB F.K H U (.obj C fs) a ∧ TopW F.K H U d b ∧ U b) := by
  obtain ⟨s, C, fs, h1, h2, h3⟩ := boxOf_out h
  have hi : i < σ.length := by rw [← R.len]; exact (List.getElem?_eq_some_iff.mp h1).1
  have hσ : σ[i]? = some σ[i] := List.getElem?_eq_getElem hi
  have q := R.slot i s _ h1 hσ
  have bo : ∀ {a : Addr}, TopB F.K H U (.obj C fs) a → TopW F.K H U d b ∧ U b := fun {a} t => by
    obtain ⟨dx, gs, g1, g2, g3⟩ := t
    obtain ⟨v, _, e2, u, t⟩ := g2.get h3
    exact ⟨t, u⟩
  cases s with
  | emp => cases h2
  | shr d' =>
    cases h2
    obtain ⟨v, _, q⟩ := q
    simp only [Rp] at q
    obtain ⟨a, dx, gs, _, _, _, g⟩ := q
    exact (g.noBx h3).elim
  | own d' => cases h2; obtain ⟨a, _, _, dx, gs, _, g⟩ := q; exact (g.noBx h3).elim
  | par d' => cases h2; obtain ⟨a, _, _, dx, gs, _, g⟩ := q; exact (g.noBx h3).elim
  | owb d' => cases h2; obtain ⟨a, e, _, t⟩ := q; exact ⟨(bo t).1.r, fun _ => ⟨_, C, fs, a, h1, rfl, rfl, rfl, h3, hσ.trans (by rw [e]), t, bo t⟩⟩
  | pab d' => cases h2; obtain ⟨a, e, _, t⟩ := q; exact ⟨(bo t).1.r, fun _ => ⟨_, C, fs, a, h1, rfl, rfl, rfl, h3, hσ.trans (by rw [e]), t, bo t⟩⟩
  | brw d' =>
    cases h2
    refine ⟨?_, fun z => by simp [isBrw, h1] at z⟩
    rcases R.bor i _ _ h1 hσ with ⟨v, _, g⟩ | ⟨a, _, t, _⟩
    · simp only [Rp] at g
      obtain ⟨a, dx, gs, _, _, _, g⟩ := g
      exact (g.noBx h3).elim
    · obtain ⟨dx, gs, _, g⟩ := t
      obtain ⟨v, _, _, t⟩ := g.get h3
      exact t.r
/-- what a result holds -/
theorem RV.get (R : Rel F U ρ σ H) {r : Rs} {v : V} {d : D} (h : RV F U σ H r v) (e : r.dat ρ = some d) : Rp F.K H U d v ∨ ∃ a, v = .ref a ∧ TopR F.K H U d a := by
  cases r with
  | val d' => cases e; exact .inl h
  | bx i f b =>
    have e : (match boxOf ρ i f with | some (b', d) => if b' = b then some d else none | none => none) = some d := e
    cases hb : boxOf ρ i f with
    | none => rw [hb] at e; cases e
    | some p =>
      obtain ⟨b', d'⟩ := p
      rw [hb] at e
      have e : (if b' = b then some d' else none) = some d := e
      by_cases z : b' = b
      · rw [if_pos z] at e; cases e; subst z
        exact .inr ⟨b', h, (R.box hb).1⟩
      · rw [if_neg z] at e; cases e
  | sl i =>
    have h : σ[i]? = some (some v) := h
    have e : (match ρ[i]? with | some s => s.dat | none => none) = some d := e
    cases hs : ρ[i]? with
    | none => rw [hs] at e; cases e
    | some s =>
      rw [hs] at e
      have q := R.slot i s _ hs h
      cases s with
      | emp => cases e
      | shr d' => cases e; obtain ⟨v', e', q⟩ := q; cases e'; exact .inl q
      | own d' => cases e; obtain ⟨a, e', _, q⟩ := q; cases e'; exact .inr ⟨a, rfl, q.r⟩
      | par d' => cases e; obtain ⟨a, e', _, q⟩ := q; cases e'; exact .inr ⟨a, rfl, q.r⟩
      | owb d' => cases e; obtain ⟨a, e', _, q⟩ := q; cases e'; exact .inr ⟨a, rfl, q.r⟩
      | pab d' => cases e; obtain ⟨a, e', _, q⟩ := q; cases e'; exact .inr ⟨a, rfl, q.r⟩
      | brw d' =>
        cases e
        rcases R.bor i d _ hs h with ⟨v', e', q2⟩ | ⟨a, e', q2, _⟩
        · cases e'; exact .inl q2
        · cases e'; exact .inr ⟨a, rfl, q2⟩
theorem RV.getN (R : Rel F U ρ σ H) {r : Rs} {v : V} {d : D} (h : RV F U σ H r v) (e : r.datN ρ = some d) : Rp F.K H U d v ∨ ∃ a, v = .ref a ∧ TopW F.K H U d a := by
  cases r with
  | val d' => cases e; exact .inl h
  | bx i f b =>
    have e : (if isBrw ρ i then none else match boxOf ρ i f with | some (b', d) => if b' = b then some d else none | none => none) = some d := e
    cases w : isBrw ρ i with
    | true => rw [w] at e; cases e
    | false =>
      rw [w, if_neg (by simp)] at e
      cases hb : boxOf ρ i f with
      | none => rw [hb] at e; cases e
      | some p =>
        obtain ⟨b', d'⟩ := p
        rw [hb] at e
        have e : (if b' = b then some d' else none) = some d := e
        by_cases z : b' = b
        · rw [if_pos z] at e; cases e; subst z
          obtain ⟨s, C, fs, a, _, _, _, _, _, _, _, t, u⟩ := (R.box hb).2 w
          exact .inr ⟨b', h, t⟩
        · rw [if_neg z] at e; cases e
  | sl i =>
    have h : σ[i]? = some (some v) := h
    have e : (match ρ[i]? with | some s => s.datN | none => none) = some d := e
    cases hs : ρ[i]? with
    | none => rw [hs] at e; cases e
    | some s =>
      rw [hs] at e
      have q := R.slot i s _ hs h
      cases s with
      | emp => cases e
      | shr d' => cases e; obtain ⟨v', e', q⟩ := q; cases e'; exact .inl q
      | own d' => cases e; obtain ⟨a, e', _, q⟩ := q; cases e'; exact .inr ⟨a, rfl, q⟩
      | par d' => cases e; obtain ⟨a, e', _, q⟩ := q; cases e'; exact .inr ⟨a, rfl, q⟩
      | _ => cases e
theorem RV.int (R : Rel F U ρ σ H) {r : Rs} {v : V} {i : Int} (h : RV F U σ H r v) (e : r.dat ρ = some (.int i)) : v = .int i := by
  rcases h.get R e with q | ⟨a, _, q⟩
  · simpa only [Rp] using q
  · exact q.elim
theorem RV.str (R : Rel F U ρ σ H) {r : Rs} {v : V} {i : Str} (h : RV F U σ H r v) (e : r.dat ρ = some (.str i)) : v = .str i := by
  rcases h.get R e with q | ⟨a, _, q⟩
  · simpa only [Rp] using q
  · exact q.elim
theorem RV.bl (R : Rel F U ρ σ H) {r : Rs} {v : V} {i : Bool} (h : RV F U σ H r v) (e : r.dat ρ = some (.bl i)) : v = .bl i := by
  rcases h.get R e with q | ⟨a, _, q⟩
  · simpa only [Rp] using q
  · exact q.elim
theorem RV.non (R : Rel F U ρ σ H) {r : Rs} {v : V} (h : RV F U σ H r v) (e : r.dat ρ = some .non) : v = .non := by
  rcases h.get R e with q | ⟨a, _, q⟩
  · simpa only [Rp] using q
  · exact q.elim
theorem RV.tup (R : Rel F U ρ σ H) {r : Rs} {v : V} {ds : List D} (h : RV F U σ H r v) (e : r.dat ρ = some (.tup ds)) : ∃ a vs, v = .ref a ∧ SqT F.K H a vs ∧ RpAll F.K H U ds vs ∧ Rp F.K H U (.tup ds) v := by
  rcases h.get R e with q | ⟨a, _, q⟩
  · have q' := q
    simp only [Rp] at q
    obtain ⟨a, vs, e, h1, h2⟩ := q
    exact ⟨a, vs, e, h1.sq, h2, q'⟩
  · exact q.elim
theorem RV.lst (R : Rel F U ρ σ H) {r : Rs} {v : V} {ds : List D} (h : RV F U σ H r v) (e : r.dat ρ = some (.lst ds)) : ∃ a vs, v = .ref a ∧ SqL F.K H a vs ∧ RpAll F.K H U ds vs := by
  rcases h.get R e with q | ⟨a, e, vs, q1, q2⟩
  · simp only [Rp] at q
    obtain ⟨a, vs, e, h1, h2⟩ := q
    exact ⟨a, vs, e, .inl (.inl h1.1), h2⟩
  · exact ⟨a, vs, e, .inl q1, q2⟩
theorem RV.lstN (R : Rel F U ρ σ H) {r : Rs} {v : V} {ds : List D} (h : RV F U σ H r v) (e : r.datN ρ = some (.lst ds)) : ∃ a vs, v = .ref a ∧ H a = some (.lst vs) ∧ RpAll F.K H U ds vs := by
  rcases h.getN R e with q | ⟨a, e, vs, q1, q2⟩
  · simp only [Rp] at q
    obtain ⟨a, vs, e, h1, h2⟩ := q
    exact ⟨a, vs, e, h1.1, h2⟩
  · exact ⟨a, vs, e, q1, q2⟩
theorem RV.obj (R : Rel F U ρ σ H) {r : Rs} {v : V} {C : Addr} {fs : List (Str × D)} (h : RV F U σ H r v) (e : r.dat ρ = some (.obj C fs)) : ∃ a dx gs, v = .ref a ∧ H a = some (.ins C dx gs) ∧ RvF F.K H U fs gs := by
  rcases h.get R e with q | ⟨a, e, dx, gs, q1, q2⟩
  · simp only [Rp] at q
    obtain ⟨a, dx, gs, e, h1, _, h2⟩ := q
    exact ⟨a, dx, gs, e, h1, rpF_rvF h2⟩
  · exact ⟨a, dx, gs, e, q1, q2⟩
theorem Rs.dat_of_datN {r : Rs} {d : D} (e : r.datN ρ = some d) : r.dat ρ = some d := by
  cases r with
  | val d' => exact e
  | sl i =>
    have e : (match ρ[i]? with | some s => s.datN | none => none) = some d := e
    show (match ρ[i]? with | some s => s.dat | none => none) = some d
    cases hs : ρ[i]? with
    | none => rw [hs] at e; cases e
    | some s =>
      rw [hs] at e
      cases s <;> first | exact e | cases e
  | bx i f b =>
    have e : (if isBrw ρ i then none else match boxOf ρ i f with | some (b', d) => if b' = b then some d else none | none => none) = some d := e
    show (match boxOf ρ i f with | some (b', d) => if b' = b then some d else none | none => none) = some d
    cases w : isBrw ρ i with
    | true => rw [w] at e; cases e
    | false => rw [w, if_neg (by simp)] at e; exact e

/-! ### rows of values -/
theorem RpAll.len : ∀ {ds : List D} {vs : List V}, RpAll K H U ds vs → vs.length = ds.length
  | [], _, h => by simp only [RpAll] at h; rw [h]; rfl
  | d :: ds, _, h => by
    simp only [RpAll] at h
    obtain ⟨v, r, rfl, _, h2⟩ := h
    rw [List.length_cons, List.length_cons, h2.len]
theorem RpAll.get : ∀ {ds : List D} {vs : List V} {i : Nat} {d : D}, RpAll K H U ds vs → ds[i]? = some d → ∃ v, vs[i]? = some v ∧ Rp K H U d v
  | [], _, _, _, _, e => by simp at e
  | d :: ds, _, 0, _, h, e => by
    simp only [RpAll] at h
    obtain ⟨v, r, rfl, h1, h2⟩ := h
    simp at e; subst e
    exact ⟨v, rfl, h1⟩
  | d :: ds, _, i + 1, _, h, e => by
    simp only [RpAll] at h
    obtain ⟨v, r, rfl, h1, h2⟩ := h
    obtain ⟨v', e', h'⟩ := RpAll.get (i := i) h2 (by simpa using e)
    exact ⟨v', by simpa using e', h'⟩
theorem RpAll.atI {ds : List D} {vs : List V} {i : Int} {d : D} (h : RpAll K H U ds vs) (e : L2.atI ds i = some d) : ∃ v, L2.atI vs i = some v ∧ Rp K H U d v := by
  unfold L2.atI at e ⊢
  rw [h.len]
  cases hx : ixN ds.length i with
  | none => rw [hx] at e; cases e
  | some j => rw [hx] at e; exact h.get e
theorem RpAll.app : ∀ {ds es : List D} {vs ws : List V}, RpAll K H U ds vs → RpAll K H U es ws → RpAll K H U (ds ++ es) (vs ++ ws)
  | [], _, _, _, h, h' => by simp only [RpAll] at h; subst h; exact h'
  | d :: ds, es, _, ws, h, h' => by
    simp only [RpAll] at h
    obtain ⟨v, r, rfl, h1, h2⟩ := h
    simp only [List.cons_append, RpAll]
    exact ⟨v, r ++ ws, rfl, h1, RpAll.app h2 h'⟩
theorem RpAll.one {d : D} {v : V} (h : Rp K H U d v) : RpAll K H U [d] [v] := by
  simp only [RpAll]; exact ⟨v, [], rfl, h, rfl⟩
theorem RpAll.drop : ∀ (n : Nat) {ds : List D} {vs : List V}, RpAll K H U ds vs → RpAll K H U (ds.drop n) (vs.drop n)
  | 0, _, _, h => h
  | n + 1, [], _, h => by simp only [RpAll] at h; subst h; simp [RpAll]
  | n + 1, d :: ds, _, h => by
    simp only [RpAll] at h
    obtain ⟨v, r, rfl, h1, h2⟩ := h
    exact RpAll.drop n h2
theorem RpAll.take : ∀ (n : Nat) {ds : List D} {vs : List V}, RpAll K H U ds vs → RpAll K H U (ds.take n) (vs.take n)
  | 0, _, _, h => by simp [RpAll]
  | n + 1, [], _, h => by simp only [RpAll] at h; subst h; simp [RpAll]
  | n + 1, d :: ds, _, h => by
    simp only [RpAll] at h
    obtain ⟨v, r, rfl, h1, h2⟩ := h
    simp only [List.take_succ_cons, RpAll]
    exact ⟨v, _, rfl, h1, RpAll.take n h2⟩
theorem RpAll.set : ∀ {ds : List D} {vs : List V} {d : D} {v : V} (i : Nat), RpAll K H U ds vs → Rp K H U d v → RpAll K H U (ds.set i d) (vs.set i v)
  | [], _, _, _, _, h, _ => by simp only [RpAll] at h; subst h; simp [RpAll]
  | d :: ds, _, d', v', 0, h, q => by
    simp only [RpAll] at h
    obtain ⟨v, r, rfl, h1, h2⟩ := h
    simp only [List.set_cons_zero, RpAll]
    exact ⟨v', r, rfl, q, h2⟩
  | d :: ds, _, d', v', i + 1, h, q => by
    simp only [RpAll] at h
    obtain ⟨v, r, rfl, h1, h2⟩ := h
    simp only [List.set_cons_succ, RpAll]
    exact ⟨v, _, rfl, h1, RpAll.set i h2 q⟩
theorem RpAll.erase : ∀ {ds : List D} {vs : List V} (i : Nat), RpAll K H U ds vs → RpAll K H U (ds.eraseIdx i) (vs.eraseIdx i)
  | [], _, _, h => by simp only [RpAll] at h; subst h; simp [RpAll]
  | d :: ds, _, 0, h => by
    simp only [RpAll] at h
    obtain ⟨v, r, rfl, h1, h2⟩ := h
    exact h2
  | d :: ds, _, i + 1, h => by
    simp only [RpAll] at h
    obtain ⟨v, r, rfl, h1, h2⟩ := h
    simp only [List.eraseIdx_cons_succ, RpAll]
    exact ⟨v, _, rfl, h1, RpAll.erase i h2⟩
theorem RpAll.rev : ∀ {ds : List D} {vs : List V}, RpAll K H U ds vs → RpAll K H U ds.reverse vs.reverse
  | [], _, h => by simp only [RpAll] at h; subst h; simp [RpAll]
  | d :: ds, _, h => by
    simp only [RpAll] at h
    obtain ⟨v, r, rfl, h1, h2⟩ := h
    rw [List.reverse_cons, List.reverse_cons]
    exact RpAll.app (RpAll.rev h2) (RpAll.one h1)
theorem RpAll.dropLast {ds : List D} {vs : List V} (h : RpAll K H U ds vs) : RpAll K H U ds.dropLast vs.dropLast := by
  rw [List.dropLast_eq_take, List.dropLast_eq_take, h.len]
  exact h.take _
theorem RpAll.ints : ∀ {ns : List Int} {vs : List V}, RpAll K H U (ns.map D.int) vs → vs = ns.map V.int
  | [], _, h => by simpa only [List.map_nil, RpAll] using h
  | n :: ns, _, h => by
    simp only [List.map_cons, RpAll, Rp] at h
    obtain ⟨v, r, rfl, rfl, h2⟩ := h
    rw [RpAll.ints h2]; rfl
theorem RpAll.ofInts : ∀ (ns : List Int), RpAll K H U (ns.map D.int) (ns.map V.int)
  | [] => by simp [RpAll]
  | n :: ns => by simp only [List.map_cons, RpAll, Rp]; exact ⟨_, _, rfl, rfl, RpAll.ofInts ns⟩
theorem RpAll.strs : ∀ {ns : List Str} {vs : List V}, RpAll K H U (ns.map D.str) vs → vs = ns.map V.str
  | [], _, h => by simpa only [List.map_nil, RpAll] using h
  | n :: ns, _, h => by
    simp only [List.map_cons, RpAll, Rp] at h
    obtain ⟨v, r, rfl, rfl, h2⟩ := h
    rw [RpAll.strs h2]; rfl
theorem RpAll.bls : ∀ {ns : List Bool} {vs : List V}, RpAll K H U (ns.map D.bl) vs → vs = ns.map V.bl
  | [], _, h => by simpa only [List.map_nil, RpAll] using h
  | n :: ns, _, h => by
    simp only [List.map_cons, RpAll, Rp] at h
    obtain ⟨v, r, rfl, rfl, h2⟩ := h
    rw [RpAll.bls h2]; rfl

/-! ### names, constants, operators -/
def eVar (i : Nat) : T3E := fun ρ Q => match ρ[i]? with
  | some (.shr d) => Q (.val d) ρ
  | some .emp => False
  | some _ => Q (.sl i) ρ
  | none => False
theorem simVar (i : Nat) : SimE K (tVar i) (eVar i) := by
  intro F U ρ σ H Q3 Q2 e R h k
  show ∃ v, σ[i]? = some (some v) ∧ Q2 v H
  have h : (match ρ[i]? with | some (.shr d) => Q3 (.val d) ρ | some .emp => False | some _ => Q3 (.sl i) ρ | none => False) := h
  cases hs : ρ[i]? with
  | none => rw [hs] at h; exact h.elim
  | some s =>
    rw [hs] at h
    have hi : i < σ.length := by rw [← R.len]; exact (List.getElem?_eq_some_iff.mp hs).1
    have hσ : σ[i]? = some σ[i] := List.getElem?_eq_getElem hi
    have q := R.slot i s _ hs hσ
    cases s with
    | emp => exact h.elim
    | shr d => obtain ⟨v, e', q⟩ := q; exact ⟨v, by rw [hσ, e'], k (.val d) v _ _ R (.refl R) q h⟩
    | own d => obtain ⟨a, e', _, q⟩ := q; exact ⟨.ref a, by rw [hσ, e'], k (.sl i) _ _ _ R (.refl R) (show σ[i]? = _ by rw [hσ, e']) h⟩
    | par d => obtain ⟨a, e', _, q⟩ := q; exact ⟨.ref a, by rw [hσ, e'], k (.sl i) _ _ _ R (.refl R) (show σ[i]? = _ by rw [hσ, e']) h⟩
    | owb d => obtain ⟨a, e', _, q⟩ := q; exact ⟨.ref a, by rw [hσ, e'], k (.sl i) _ _ _ R (.refl R) (show σ[i]? = _ by rw [hσ, e']) h⟩
    | pab d => obtain ⟨a, e', _, q⟩ := q; exact ⟨.ref a, by rw [hσ, e'], k (.sl i) _ _ _ R (.refl R) (show σ[i]? = _ by rw [hσ, e']) h⟩
    | brw d =>
      rcases R.bor i d _ hs hσ with ⟨v, e', q⟩ | ⟨a, e', q, _⟩
      · exact ⟨v, by rw [hσ, e'], k (.sl i) _ _ _ R (.refl R) (show σ[i]? = _ by rw [hσ, e']) h⟩
      · exact ⟨.ref a, by rw [hσ, e'], k (.sl i) _ _ _ R (.refl R) (show σ[i]? = _ by rw [hσ, e']) h⟩
def eC (d : D) : T3E := fun ρ Q => Q (.val d) ρ
theorem simC {v : V} {d : D} (h : ∀ H U, Rp K H U d v) : SimE K (tC v) (eC d) := by
  intro F U ρ σ H Q3 Q2 e R q k
  exact k (.val d) v _ _ R (.refl R) (show Rp F.K H U d v by rw [e]; exact h H U) q
def eOp (r3 : Rs → Rs → En → (Rs → En → Prop) → Prop) (fa fb : T3E) : T3E := fun ρ Q => fa ρ fun x ρ1 => fb ρ1 fun y ρ2 => r3 x y ρ2 Q
theorem simOp {r2 : R2} {r3 : Rs → Rs → En → (Rs → En → Prop) → Prop} {ta tb : TE} {fa fb : T3E} (hr : SimR2 K r2 r3) (ha : SimE K ta fa) (hb : SimE K tb fb) : SimE K (tOp r2 ta tb) (eOp r3 fa fb) := by
  intro F U ρ σ H Q3 Q2 e R q k
  refine ha F U ρ σ H _ _ e R q fun x v ρ1 H1 R1 s1 q1 h1 => ?_
  refine hb F U ρ1 σ H1 _ _ e R1 h1 fun y u ρ2 H2 R2 s2 q2 h2 => ?_
  exact hr F U ρ2 σ H2 v u x y _ _ e R2 (q1.pres (s2.pres R1)) q2 h2 fun r w ρ3 H3 R3 s3 q3 h3 => k r w ρ3 H3 R3 ((s1.trans s2).trans s3) q3 h3
def eUn (r3 : Rs → En → (Rs → En → Prop) → Prop) (fa : T3E) : T3E := fun ρ Q => fa ρ fun x ρ1 => r3 x ρ1 Q
/-- the data of a result, what follows -/
def wd (x : Rs) (ρ : En) (k : D → Prop) : Prop := match x.dat ρ with
  | some d => k d
  | none => False
def wn (x : Rs) (ρ : En) (k : D → Prop) : Prop := match x.datN ρ with
  | some d => k d
  | none => False
theorem wd_out {x : Rs} {k : D → Prop} (h : wd x ρ k) : ∃ d, x.dat ρ = some d ∧ k d := by
  unfold wd at h
  cases e : x.dat ρ with
  | none => rw [e] at h; exact h.elim
  | some d => rw [e] at h; exact ⟨d, rfl, h⟩
theorem wn_out {x : Rs} {k : D → Prop} (h : wn x ρ k) : ∃ d, x.datN ρ = some d ∧ k d := by
  unfold wn at h
  cases e : x.datN ρ with
  | none => rw [e] at h; exact h.elim
  | some d => rw [e] at h; exact ⟨d, rfl, h⟩
/-- two ints -/
def w2I (x y : Rs) (ρ : En) (k : Int → Int → Prop) : Prop := wd x ρ fun dx => wd y ρ fun dy => match dx, dy with
  | .int i, .int j => k i j
  | _, _ => False
theorem w2I_out {x y : Rs} {k : Int → Int → Prop} (h : w2I x y ρ k) : ∃ i j, x.dat ρ = some (.int i) ∧ y.dat ρ = some (.int j) ∧ k i j := by
  obtain ⟨dx, e1, h⟩ := wd_out h
  obtain ⟨dy, e2, h⟩ := wd_out h
  cases dx <;> cases dy <;> first | exact ⟨_, _, e1, e2, h⟩ | exact h.elim
/-- two ints to a value that needs no heap -/
def oI (C : Int → Int → Prop) (g : Int → Int → D) (x y : Rs) (ρ : En) (Q : Rs → En → Prop) : Prop := w2I x y ρ fun i j => C i j ∧ Q (.val (g i j)) ρ
theorem simI {C : Int → Int → Prop} {g : Int → Int → V} {g' : Int → Int → D} (hg : ∀ i j H U, Rp K H U (g' i j) (g i j)) : SimR2 K (rI C g) (oI C g') := by
  intro F U ρ σ H x y rx ry Q3 Q2 e R h1 h2 h k
  obtain ⟨i, j, e1, e2, c, q⟩ := w2I_out h
  exact ⟨i, j, h1.int R e1, h2.int R e2, c, k (.val (g' i j)) _ _ _ R (.refl R) (show Rp F.K H U _ _ by rw [e]; exact hg i j H U) q⟩
def oI0 (g : Int → Int → D) (x y : Rs) (ρ : En) (Q : Rs → En → Prop) : Prop := w2I x y ρ fun i j => Q (.val (g i j)) ρ
theorem simI0 {g : Int → Int → V} {g' : Int → Int → D} (hg : ∀ i j H U, Rp K H U (g' i j) (g i j)) : SimR2 K (rI0 g) (oI0 g') := by
  intro F U ρ σ H x y rx ry Q3 Q2 e R h1 h2 h k
  obtain ⟨i, j, e1, e2, q⟩ := w2I_out h
  exact ⟨i, j, h1.int R e1, h2.int R e2, k (.val (g' i j)) _ _ _ R (.refl R) (show Rp F.K H U _ _ by rw [e]; exact hg i j H U) q⟩
/-- a new object that is shared at once -/
theorem rp_newL {F : Fr} {U : US} {ρ : En} {σ : St} {H : Hp} (R : Rel F U ρ σ H) {p : Addr} (hp : H p = none) {ds : List D} {vs : List V} (h : RpAll F.K H U ds vs) : Rp F.K (upd H p (.lst vs)) U (.lst ds) (.ref p) := by
  simp only [Rp]
  exact ⟨p, vs, rfl, ⟨upd_same, R.fresh hp⟩, RpAll.pres (fun a o e n => ⟨ext_new hp a o e, n⟩) ds vs h⟩
theorem rp_newT {F : Fr} {U : US} {ρ : En} {σ : St} {H : Hp} (R : Rel F U ρ σ H) {p : Addr} {ob : Obj} (hob : ob.dict = none) (hp : H p = none) {ds : List D} {vs : List V} (h : RpAll F.K H U ds vs) : Rp F.K (upd H p (.frz ob (.tup vs))) U (.tup ds) (.ref p) := by
  simp only [Rp]
  exact ⟨p, vs, rfl, .inl ⟨⟨ob, hob, upd_same⟩, R.fresh hp⟩, RpAll.pres (fun a o e n => ⟨ext_new hp a o e, n⟩) ds vs h⟩
end
end L3

set_option Elab.async false
set_option linter.all false
set_option maxRecDepth 100000
namespace L3
open PySem L2
open PyProof.Rows (b2i)

/-! ### equality of data -/
mutual
def D.toP : D → PyData
  | .non => .none
  | .bl b => .bool b
  | .int i => .int i
  | .str s => .str s
  | .tup xs => .tuple (D.toPs xs)
  | .lst xs => .list (D.toPs xs)
  | _ => .none
def D.toPs : List D → List PyData
  | [] => []
  | x :: xs => x.toP :: D.toPs xs
end
mutual
def D.ok : D → Bool
  | .non => true
  | .bl _ => true
  | .int _ => true
  | .str s => PyData.strOk s
  | .tup xs => D.oks xs
  | .lst xs => D.oks xs
  | _ => false
def D.oks : List D → Bool
  | [] => true
  | x :: xs => x.ok && D.oks xs
end
mutual
def D.dep : D → Nat
  | .tup xs => D.deps xs + 1
  | .lst xs => D.deps xs + 1
  | _ => 0
def D.deps : List D → Nat
  | [] => 0
  | x :: xs => max x.dep (D.deps xs)
end
mutual
def D.eqv : D → D → Bool
  | .non, .non => true
  | .bl a, .bl b => a == b
  | .bl a, .int j => (if a then 1 else 0) == j
  | .int i, .bl b => i == (if b then 1 else 0)
  | .int i, .int j => i == j
  | .str x, .str y => x == y
  | .tup xs, .tup ys => D.eqvs xs ys
  | .lst xs, .lst ys => D.eqvs xs ys
  | _, _ => false
def D.eqvs : List D → List D → Bool
  | [], [] => true
  | x :: xs, y :: ys => D.eqv x y && D.eqvs xs ys
  | _, _ => false
end
def D.shp (d : D) : Bool := d.ok && decide (d.dep ≤ 50)
mutual
theorem toP_dep : ∀ d : D, d.toP.depth = d.dep
  | .non => by simp [D.toP, D.dep, PyData.depth]
  | .bl _ => by simp [D.toP, D.dep, PyData.depth]
  | .int _ => by simp [D.toP, D.dep, PyData.depth]
  | .str _ => by simp [D.toP, D.dep, PyData.depth]
  | .tup xs => by simp [D.toP, D.dep, PyData.depth, toPs_dep xs]
  | .lst xs => by simp [D.toP, D.dep, PyData.depth, toPs_dep xs]
  | .dic _ => by simp [D.toP, D.dep, PyData.depth]
  | .dit _ => by simp [D.toP, D.dep, PyData.depth]
  | .obj _ _ => by simp [D.toP, D.dep, PyData.depth]
  | .ty _ => by simp [D.toP, D.dep, PyData.depth]
  | .cls _ => by simp [D.toP, D.dep, PyData.depth]
  | .scr _ => by simp [D.toP, D.dep, PyData.depth]
  | .bx _ _ => by simp [D.toP, D.dep, PyData.depth]
  | .din _ _ => by simp [D.toP, D.dep, PyData.depth]
theorem toPs_dep : ∀ ds : List D, PyData.depthAll (D.toPs ds) = D.deps ds
  | [] => by simp [D.toPs, D.deps, PyData.depthAll]
  | x :: xs => by simp [D.toPs, D.deps, PyData.depthAll, toP_dep x, toPs_dep xs]
end
mutual
theorem toP_ok : ∀ d : D, d.ok = true → d.toP.canLay0 = true
  | .non, _ => by simp [D.toP, PyData.canLay0]
  | .bl _, _ => by simp [D.toP, PyData.canLay0]
  | .int _, _ => by simp [D.toP, PyData.canLay0]
  | .str _, h => by simpa [D.toP, PyData.canLay0, D.ok] using h
  | .tup xs, h => by simpa [D.toP, PyData.canLay0] using toPs_ok xs (by simpa [D.ok] using h)
  | .lst xs, h => by simpa [D.toP, PyData.canLay0] using toPs_ok xs (by simpa [D.ok] using h)
  | .dic _, h => by simp [D.ok] at h
  | .dit _, h => by simp [D.ok] at h
  | .obj _ _, h => by simp [D.ok] at h
  | .ty _, h => by simp [D.ok] at h
  | .cls _, h => by simp [D.ok] at h
  | .scr _, h => by simp [D.ok] at h
  | .bx _ _, h => by simp [D.ok] at h
  | .din _ _, h => by simp [D.ok] at h
theorem toPs_ok : ∀ ds : List D, D.oks ds = true → PyData.canLayAll0 (D.toPs ds) = true
  | [], _ => by simp [D.toPs, PyData.canLayAll0]
  | x :: xs, h => by
    simp only [D.oks, Bool.and_eq_true] at h
    simp [D.toPs, PyData.canLayAll0, toP_ok x h.1, toPs_ok xs h.2]
end
theorem shp_shaped {d : D} (h : d.shp = true) : SeqAt.shaped d.toP = true := by
  unfold D.shp at h
  simp only [Bool.and_eq_true, decide_eq_true_eq] at h
  unfold SeqAt.shaped
  rw [toP_ok d h.1, toP_dep]
  simp; omega
mutual
theorem eqv_toP : ∀ d e : D, d.ok = true → e.ok = true → PyData.eqv d.toP e.toP = D.eqv d e
  | .tup xs, .tup ys, h, h' => by simpa [D.toP, PyData.eqv, D.eqv] using eqvs_toP xs ys (by simpa [D.ok] using h) (by simpa [D.ok] using h')
  | .lst xs, .lst ys, h, h' => by simpa [D.toP, PyData.eqv, D.eqv] using eqvs_toP xs ys (by simpa [D.ok] using h) (by simpa [D.ok] using h')
  | .non, e, _, h' => by cases e <;> first | (exfalso; simp [D.ok] at h'; done) | simp [D.toP, PyData.eqv, D.eqv]
  | .bl _, e, _, h' => by cases e <;> first | (exfalso; simp [D.ok] at h'; done) | simp [D.toP, PyData.eqv, D.eqv]
  | .int _, e, _, h' => by cases e <;> first | (exfalso; simp [D.ok] at h'; done) | simp [D.toP, PyData.eqv, D.eqv]
  | .str _, e, _, h' => by cases e <;> first | (exfalso; simp [D.ok] at h'; done) | simp [D.toP, PyData.eqv, D.eqv]
  | .tup _, .non, _, _ => by simp [D.toP, PyData.eqv, D.eqv]
  | .tup _, .bl _, _, _ => by simp [D.toP, PyData.eqv, D.eqv]
  | .tup _, .int _, _, _ => by simp [D.toP, PyData.eqv, D.eqv]
  | .tup _, .str _, _, _ => by simp [D.toP, PyData.eqv, D.eqv]
  | .tup _, .lst _, _, _ => by simp [D.toP, PyData.eqv, D.eqv]
  | .tup _, .dic _, _, h => by simp [D.ok] at h
  | .tup _, .dit _, _, h => by simp [D.ok] at h
  | .tup _, .obj _ _, _, h => by simp [D.ok] at h
  | .tup _, .ty _, _, h => by simp [D.ok] at h
  | .tup _, .cls _, _, h => by simp [D.ok] at h
  | .tup _, .scr _, _, h => by simp [D.ok] at h
  | .tup _, .bx _ _, _, h => by simp [D.ok] at h
  | .tup _, .din _ _, _, h => by simp [D.ok] at h
  | .lst _, .non, _, _ => by simp [D.toP, PyData.eqv, D.eqv]
  | .lst _, .bl _, _, _ => by simp [D.toP, PyData.eqv, D.eqv]
  | .lst _, .int _, _, _ => by simp [D.toP, PyData.eqv, D.eqv]
  | .lst _, .str _, _, _ => by simp [D.toP, PyData.eqv, D.eqv]
  | .lst _, .tup _, _, _ => by simp [D.toP, PyData.eqv, D.eqv]
  | .lst _, .dic _, _, h => by simp [D.ok] at h
  | .lst _, .dit _, _, h => by simp [D.ok] at h
  | .lst _, .obj _ _, _, h => by simp [D.ok] at h
  | .lst _, .ty _, _, h => by simp [D.ok] at h
  | .lst _, .cls _, _, h => by simp [D.ok] at h
  | .lst _, .scr _, _, h => by simp [D.ok] at h
  | .lst _, .bx _ _, _, h => by simp [D.ok] at h
  | .lst _, .din _ _, _, h => by simp [D.ok] at h
  | .dic _, _, h, _ => by simp [D.ok] at h
  | .dit _, _, h, _ => by simp [D.ok] at h
  | .obj _ _, _, h, _ => by simp [D.ok] at h
  | .ty _, _, h, _ => by simp [D.ok] at h
  | .cls _, _, h, _ => by simp [D.ok] at h
  | .scr _, _, h, _ => by simp [D.ok] at h
  | .bx _ _, _, h, _ => by simp [D.ok] at h
  | .din _ _, _, h, _ => by simp [D.ok] at h
theorem eqvs_toP : ∀ ds es : List D, D.oks ds = true → D.oks es = true → PyData.eqvAll (D.toPs ds) (D.toPs es) = D.eqvs ds es
  | [], [], _, _ => by simp [D.toPs, PyData.eqvAll, D.eqvs]
  | [], _ :: _, _, _ => by simp [D.toPs, PyData.eqvAll, D.eqvs]
  | _ :: _, [], _, _ => by simp [D.toPs, PyData.eqvAll, D.eqvs]
  | x :: xs, y :: ys, h, h' => by
    simp only [D.oks, Bool.and_eq_true] at h h'
    simp [D.toPs, PyData.eqvAll, D.eqvs, eqv_toP x y h.1 h'.1, eqvs_toP xs ys h.2 h'.2]
end
theorem toPs_any (e : D) (he : e.ok = true) : ∀ ds : List D, D.oks ds = true → ((D.toPs ds).any fun z => PyData.eqv z e.toP) = ds.any fun z => D.eqv z e
  | [], _ => by simp [D.toPs]
  | x :: xs, h => by
    simp only [D.oks, Bool.and_eq_true] at h
    simp [D.toPs, eqv_toP x e h.1 he, toPs_any e he xs h.2]
section
variable {F : Fr} {U : US} {ρ ρ' ρ2 : En} {σ : St} {H H' H2 : Hp} {K : PySem.W.Frag}
mutual
theorem Rp.dp : ∀ (d : D) (v : V), d.ok = true → Rp K H U d v → Dp K H v d.toP
  | .non, _, _, h => by simp only [Rp] at h; subst h; exact .non
  | .bl _, _, _, h => by simp only [Rp] at h; subst h; exact .bl _
  | .int _, _, _, h => by simp only [Rp] at h; subst h; exact .int _
  | .str _, _, _, h => by simp only [Rp] at h; subst h; exact .str _
  | .tup ds, _, o, h => by
    simp only [Rp] at h
    obtain ⟨a, vs, rfl, h1, h2⟩ := h
    simp only [D.toP]
    exact .tup h1.sq (RpAll.dp ds vs (by simpa [D.ok] using o) h2)
  | .lst ds, _, o, h => by
    simp only [Rp] at h
    obtain ⟨a, vs, rfl, h1, h2⟩ := h
    simp only [D.toP]
    exact .lst (.inl (.inl h1.1)) (RpAll.dp ds vs (by simpa [D.ok] using o) h2)
  | .dic _, _, o, _ => by simp [D.ok] at o
  | .dit _, _, o, _ => by simp [D.ok] at o
  | .obj _ _, _, o, _ => by simp [D.ok] at o
  | .ty _, _, o, _ => by simp [D.ok] at o
  | .cls _, _, o, _ => by simp [D.ok] at o
  | .scr _, _, o, _ => by simp [D.ok] at o
  | .bx _ _, _, o, _ => by simp [D.ok] at o
  | .din _ _, _, o, _ => by simp [D.ok] at o
theorem RpAll.dp : ∀ (ds : List D) (vs : List V), D.oks ds = true → RpAll K H U ds vs → DpAll K H vs (D.toPs ds)
  | [], _, _, h => by simp only [RpAll] at h; subst h; simp only [D.toPs]; exact .nil
  | d :: ds, _, o, h => by
    simp only [RpAll] at h
    obtain ⟨v, r, rfl, h1, h2⟩ := h
    simp only [D.oks, Bool.and_eq_true] at o
    simp only [D.toPs]
    exact .cons (Rp.dp d v o.1 h1) (RpAll.dp ds r o.2 h2)
end
theorem RV.dp (R : Rel F U ρ σ H) {r : Rs} {v : V} {d : D} (h : RV F U σ H r v) (e : r.dat ρ = some d) (o : d.ok = true) : Dp F.K H v d.toP := by
  rcases h.get R e with q | ⟨a, rfl, q⟩
  · exact Rp.dp d v o q
  · cases d with
    | lst ds =>
      obtain ⟨vs, h1, h2⟩ := q
      simp only [D.toP]
      exact .lst (.inl h1) (RpAll.dp ds vs (by simpa [D.ok] using o) h2)
    | dic _ => simp [D.ok] at o
    | dit _ => simp [D.ok] at o
    | obj _ _ => simp [D.ok] at o
    | din _ _ => simp [D.ok] at o
    | _ => exact q.elim
theorem rp_bl {b : Bool} : Rp K H U (.bl b) (.bl b) := by simp only [Rp]
theorem rp_int {b : Int} : Rp K H U (.int b) (.int b) := by simp only [Rp]
theorem rp_str {b : Str} : Rp K H U (.str b) (.str b) := by simp only [Rp]
theorem rp_non : Rp K H U .non .non := by simp only [Rp]
def oEq (neg : Bool) (x y : Rs) (ρ : En) (Q : Rs → En → Prop) : Prop := wd x ρ fun dx => wd y ρ fun dy => dx.shp = true ∧ dy.shp = true ∧ Q (.val (.bl (if neg then !D.eqv dx dy else D.eqv dx dy))) ρ
theorem simEq : SimR2 K (rEqD K) (oEq false) := by
  intro F U ρ σ H x y rx ry Q3 Q2 e R h1 h2 h k
  obtain ⟨dx, e1, h⟩ := wd_out h
  obtain ⟨dy, e2, h⟩ := wd_out h
  obtain ⟨s1, s2, q⟩ := h
  have o1 : dx.ok = true := (Bool.and_eq_true_iff.mp s1).1
  have o2 : dy.ok = true := (Bool.and_eq_true_iff.mp s2).1
  subst e
  refine ⟨dx.toP, dy.toP, h1.dp R e1 o1, h2.dp R e2 o2, shp_shaped s1, shp_shaped s2, ?_⟩
  rw [eqv_toP dx dy o1 o2]
  exact k (.val (.bl _)) _ _ _ R (.refl R) (show Rp F.K H U _ _ from rp_bl) q
theorem simNe : SimR2 K (rNeD K) (oEq true) := by
  intro F U ρ σ H x y rx ry Q3 Q2 e R h1 h2 h k
  obtain ⟨dx, e1, h⟩ := wd_out h
  obtain ⟨dy, e2, h⟩ := wd_out h
  obtain ⟨s1, s2, q⟩ := h
  have o1 : dx.ok = true := (Bool.and_eq_true_iff.mp s1).1
  have o2 : dy.ok = true := (Bool.and_eq_true_iff.mp s2).1
  subst e
  refine ⟨dx.toP, dy.toP, h1.dp R e1 o1, h2.dp R e2 o2, shp_shaped s1, shp_shaped s2, ?_⟩
  rw [eqv_toP dx dy o1 o2]
  exact k (.val (.bl _)) _ _ _ R (.refl R) (show Rp F.K H U _ _ from rp_bl) q
/-- x in a list or a tuple of data -/
def rInS (K : PySem.W.Frag) (neg : Bool) : R2 := fun x y H Q => ∃ d ds, Dp K H x d ∧ (Dp K H y (.list ds) ∨ Dp K H y (.tuple ds)) ∧ SeqAt.shaped d = true ∧ SeqAt.shaped (.list ds) = true ∧ Q (.bl (if neg then !(ds.any fun z => PyData.eqv z d) else ds.any fun z => PyData.eqv z d)) H
theorem op_inS {X : Cx} (hu : X.A.units + 65 < cLine) : OpR X (compareOp .In) (rInS X.K false) := by
  intro pins s σ H x y v u Q I rx ry h
  obtain ⟨d, ds, hd, he, sd, se, q⟩ := h
  obtain ⟨as, r1⟩ := Dp.reads I d x v hd rx
  have hxs : PyData.canLayAll0 ds = true := by simpa [PyData.canLay0] using SeqAt.canLay_of_shaped se
  rcases he with he | he
  · obtain ⟨bs, r2⟩ := Dp.reads I (.list ds) y u he ry
    exact SeqAt.in_list_reads r2 r1 hxs (SeqAt.canLay_of_shaped sd) (PyProof.Rows.room_in_shaped sd hu) ⟨.bl _, H, I, rfl, q⟩
  · obtain ⟨bs, r2⟩ := Dp.reads I (.tuple ds) y u he ry
    exact SeqAt.in_tuple_reads r2 r1 hxs (SeqAt.canLay_of_shaped sd) (PyProof.Rows.room_in_shaped sd hu) ⟨.bl _, H, I, rfl, q⟩
theorem op_notInS {X : Cx} (hu : X.A.units + 65 < cLine) : OpR X (compareOp .NotIn) (rInS X.K true) := by
  intro pins s σ H x y v u Q I rx ry h
  obtain ⟨d, ds, hd, he, sd, se, q⟩ := h
  obtain ⟨as, r1⟩ := Dp.reads I d x v hd rx
  have hxs : PyData.canLayAll0 ds = true := by simpa [PyData.canLay0] using SeqAt.canLay_of_shaped se
  rcases he with he | he
  · obtain ⟨bs, r2⟩ := Dp.reads I (.list ds) y u he ry
    exact SeqAt.notIn_list_reads r2 r1 hxs (SeqAt.canLay_of_shaped sd) (PyProof.Rows.room_in_shaped sd hu) ⟨.bl _, H, I, rfl, q⟩
  · obtain ⟨bs, r2⟩ := Dp.reads I (.tuple ds) y u he ry
    exact SeqAt.notIn_tuple_reads r2 r1 hxs (SeqAt.canLay_of_shaped sd) (PyProof.Rows.room_in_shaped sd hu) ⟨.bl _, H, I, rfl, q⟩
def oIn (neg : Bool) (x y : Rs) (ρ : En) (Q : Rs → En → Prop) : Prop := wd x ρ fun dx => wd y ρ fun dy => match dy with
  | .lst ds => dx.shp = true ∧ (D.lst ds).shp = true ∧ Q (.val (.bl (if neg then !(ds.any fun z => D.eqv z dx) else ds.any fun z => D.eqv z dx))) ρ
  | .tup ds => dx.shp = true ∧ (D.tup ds).shp = true ∧ Q (.val (.bl (if neg then !(ds.any fun z => D.eqv z dx) else ds.any fun z => D.eqv z dx))) ρ
  | _ => False
theorem simIn (neg : Bool) : SimR2 K (rInS K neg) (oIn neg) := by
  intro F U ρ σ H x y rx ry Q3 Q2 e R h1 h2 h k
  obtain ⟨dx, e1, h⟩ := wd_out h
  obtain ⟨dy, e2, h⟩ := wd_out h
  subst e
  cases dy with
  | lst ds =>
    obtain ⟨s1, s2, q⟩ := h
    have o1 : dx.ok = true := (Bool.and_eq_true_iff.mp s1).1
    have o2 : (D.lst ds).ok = true := (Bool.and_eq_true_iff.mp s2).1
    have z := h2.dp R e2 o2
    have y2 := shp_shaped s2
    simp only [D.toP] at z y2
    refine ⟨dx.toP, D.toPs ds, h1.dp R e1 o1, .inl z, shp_shaped s1, y2, ?_⟩
    rw [toPs_any dx o1 ds (by simpa [D.ok] using o2)]
    exact k (.val (.bl _)) _ _ _ R (.refl R) (show Rp F.K H U _ _ from rp_bl) q
  | tup ds =>
    obtain ⟨s1, s2, q⟩ := h
    have o1 : dx.ok = true := (Bool.and_eq_true_iff.mp s1).1
    have o2 : (D.tup ds).ok = true := (Bool.and_eq_true_iff.mp s2).1
    have z := h2.dp R e2 o2
    have y2 := shp_shaped s2
    simp only [D.toP] at z
    have y3 : SeqAt.shaped (.list (D.toPs ds)) = true := by
      simpa [SeqAt.shaped, D.toP, PyData.canLay0, PyData.depth] using y2
    refine ⟨dx.toP, D.toPs ds, h1.dp R e1 o1, .inr z, shp_shaped s1, y3, ?_⟩
    rw [toPs_any dx o1 ds (by simpa [D.ok] using o2)]
    exact k (.val (.bl _)) _ _ _ R (.refl R) (show Rp F.K H U _ _ from rp_bl) q
  | _ => exact h.elim
/-- a text in a text -/
def rInT (neg : Bool) : R2 := fun x y H Q => ∃ i j, x = .str i ∧ y = .str j ∧ Q (.bl (if neg then !(!(Builtin.Str.occurrences j i 0 j.length 1).isEmpty) else !(Builtin.Str.occurrences j i 0 j.length 1).isEmpty)) H
theorem op_inT {X : Cx} : OpR X (compareOp .In) (rInT false) := fun pins s σ H x y v u Q I rx ry h => op_in_str pins s σ H x y v u Q I rx ry h
theorem op_notInT {X : Cx} : OpR X (compareOp .NotIn) (rInT true) := fun pins s σ H x y v u Q I rx ry h => op_notin_str pins s σ H x y v u Q I rx ry h
def oInT (neg : Bool) (x y : Rs) (ρ : En) (Q : Rs → En → Prop) : Prop := wd x ρ fun dx => wd y ρ fun dy => match dx, dy with
  | .str i, .str j => Q (.val (.bl (if neg then !(!(Builtin.Str.occurrences j i 0 j.length 1).isEmpty) else !(Builtin.Str.occurrences j i 0 j.length 1).isEmpty))) ρ
  | _, _ => False
theorem simInT (neg : Bool) : SimR2 K (rInT neg) (oInT neg) := by
  intro F U ρ σ H x y rx ry Q3 Q2 e R h1 h2 h k
  obtain ⟨dx, e1, h⟩ := wd_out h
  obtain ⟨dy, e2, h⟩ := wd_out h
  cases dx <;> cases dy <;> first | exact ⟨_, _, h1.str R e1, h2.str R e2, k (.val (.bl _)) _ _ _ R (.refl R) (show Rp F.K H U _ _ from rp_bl) h⟩ | exact h.elim
def D.isNon : D → Bool
  | .non => true
  | _ => false
/-- is None -/
def oIsN (neg : Bool) (x y : Rs) (ρ : En) (Q : Rs → En → Prop) : Prop := wd x ρ fun dx => wd y ρ fun dy => match dy with
  | .non => Q (.val (.bl (if neg then !dx.isNon else dx.isNon))) ρ
  | _ => False
theorem non_dec (R : Rel F U ρ σ H) {r : Rs} {v : V} {d : D} (h : RV F U σ H r v) (e : r.dat ρ = some d) : decide (v = V.non) = d.isNon := by
  rcases h.get R e with q | ⟨a, rfl, q⟩
  · cases d <;> simp only [Rp] at q
    all_goals first
      | (subst q; rfl)
      | (obtain ⟨a, e', q⟩ := q; subst e'; rfl)
      | (obtain ⟨a, vs, e', q⟩ := q; subst e'; rfl)
      | (obtain ⟨a, dx, gs, e', q⟩ := q; subst e'; rfl)
  · cases d <;> first | rfl | exact q.elim
theorem simIsN : SimR2 K (fun x y H Q => y = .non ∧ Q (.bl (decide (x = .non))) H) (oIsN false) := by
  intro F U ρ σ H x y rx ry Q3 Q2 e R h1 h2 h k
  obtain ⟨dx, e1, h⟩ := wd_out h
  obtain ⟨dy, e2, h⟩ := wd_out h
  cases dy <;> first | exact h.elim | skip
  refine ⟨h2.non R e2, ?_⟩
  rw [non_dec R h1 e1]
  exact k (.val (.bl _)) _ _ _ R (.refl R) (show Rp F.K H U _ _ from rp_bl) h
theorem simNotN : SimR2 K (fun x y H Q => y = .non ∧ Q (.bl (!decide (x = .non))) H) (oIsN true) := by
  intro F U ρ σ H x y rx ry Q3 Q2 e R h1 h2 h k
  obtain ⟨dx, e1, h⟩ := wd_out h
  obtain ⟨dy, e2, h⟩ := wd_out h
  cases dy <;> first | exact h.elim | skip
  refine ⟨h2.non R e2, ?_⟩
  rw [non_dec R h1 e1]
  exact k (.val (.bl _)) _ _ _ R (.refl R) (show Rp F.K H U _ _ from rp_bl) h
/-- + of ints, texts, tuples, lists -/
def r2Add (K : PySem.W.Frag) : R2 := fun x y H Q => (rI0 (fun i j => .int (i + j))) x y H Q ∨ (∃ i j, x = .str i ∧ y = .str j ∧ i.length + j.length ≤ sizeLine ∧ Q (.str (i ++ j)) H) ∨ rCatF K x y H Q ∨ rCat x y H Q ∨ (∃ i k, x = .int i ∧ y = .bl k ∧ Q (.int (i + b2i k)) H)
theorem op_addP {X : Cx} : OpR X (binaryOp .Add) (r2Add X.K) := op_add.or (op_add_str.or (op_catF.or (op_cat.or op_add_ib)))
def oAdd (x y : Rs) (ρ : En) (Q : Rs → En → Prop) : Prop := wn x ρ fun dx => wn y ρ fun dy => match dx, dy with
  | .int i, .int j => Q (.val (.int (i + j))) ρ
  | .int i, .bl b => Q (.val (.int (i + b2i b))) ρ
  | .str i, .str j => i.length + j.length ≤ sizeLine ∧ Q (.val (.str (i ++ j))) ρ
  | .tup xs, .tup ys => xs.length + ys.length ≤ sizeLine ∧ Q (.val (.tup (xs ++ ys))) ρ
  | .lst xs, .lst ys => xs.length + ys.length ≤ sizeLine ∧ Q (.val (.lst (xs ++ ys))) ρ
  | _, _ => False
theorem simAdd : SimR2 K (r2Add K) oAdd := by
  intro F U ρ σ H x y rx ry Q3 Q2 e R h1 h2 h k
  obtain ⟨dx, e1, h⟩ := wn_out h
  obtain ⟨dy, e2, h⟩ := wn_out h
  have f1 := Rs.dat_of_datN e1
  have f2 := Rs.dat_of_datN e2
  subst e
  cases dx <;> cases dy
  all_goals first | exact h.elim | skip
  · exact .inr (.inr (.inr (.inr ⟨_, _, h1.int R f1, h2.bl R f2, k (.val (.int _)) _ _ _ R (.refl R) (show Rp F.K H U _ _ from rp_int) h⟩)))
  · exact .inl ⟨_, _, h1.int R f1, h2.int R f2, k (.val (.int _)) _ _ _ R (.refl R) (show Rp F.K H U _ _ from rp_int) h⟩
  · exact .inr (.inl ⟨_, _, h1.str R f1, h2.str R f2, h.1, k (.val (.str _)) _ _ _ R (.refl R) (show Rp F.K H U _ _ from rp_str) h.2⟩)
  · rename_i xs _ ys
    obtain ⟨a, vs, rfl, q1, q2, q3⟩ := h1.tup R f1
    obtain ⟨b, ws, rfl, p1, p2, p3⟩ := h2.tup R f2
    refine .inr (.inr (.inl ⟨a, b, vs, ws, rfl, rfl, q1, p1, by rw [q2.len, p2.len]; exact h.1, fun z => ?_, fun z1 z2 => ?_, fun z1 z2 p ob hp hob => ?_⟩))
    · have : xs = [] := by have := q2.len; rw [z] at this; exact List.eq_nil_of_length_eq_zero this.symm
      subst this
      exact k (.val (.tup _)) _ _ _ R (.refl R) (show Rp F.K H U _ _ from p3) h.2
    · have : ys = [] := by have := p2.len; rw [z2] at this; exact List.eq_nil_of_length_eq_zero this.symm
      subst this
      have h2 := h.2
      rw [List.append_nil] at h2
      exact k (.val (.tup _)) _ _ _ R (.refl R) (show Rp F.K H U _ _ from q3) h2
    · exact k (.val (.tup _)) _ _ _ (R.ext (ext_new hp)) (.ext (ext_new hp)) (rp_newT R hob hp (q2.app p2)) h.2
  · obtain ⟨a, vs, rfl, q1, q2⟩ := h1.lstN R e1
    obtain ⟨b, ws, rfl, p1, p2⟩ := h2.lstN R e2
    exact .inr (.inr (.inr (.inl ⟨a, b, vs, ws, rfl, rfl, q1, p1, by rw [q2.len, p2.len]; exact h.1, fun p hp =>
      k (.val (.lst _)) _ _ _ (R.ext (ext_new hp)) (.ext (ext_new hp)) (rp_newL R hp (q2.app p2)) h.2⟩)))
/-- * of ints, of an int and a truth value, of a list and an int -/
def r2Mul : R2 := fun x y H Q => (rI CMul fun i j => .int (i * j)) x y H Q ∨ (∃ i k, x = .int i ∧ y = .bl k ∧ Q (.int (i * if k = true then (1 : Int) else 0)) H) ∨ rRep x y H Q
theorem op_mul_ib {X : Cx} : OpR X (binaryOp .Mult) (fun x y H Q => ∃ i k, x = .int i ∧ y = .bl k ∧ Q (.int (i * if k = true then (1 : Int) else 0)) H) := by
  intro pins s σ H x y v u Q I rx ry h
  obtain ⟨i, k, rfl, rfl, q⟩ := h
  obtain ⟨t, rfl⟩ := rx
  cases ry
  exact PySem.IntBool.mul_int_bool ⟨.int _, H, I.tok _, ⟨_, rfl⟩, q⟩
theorem op_mulP {X : Cx} : OpR X (binaryOp .Mult) r2Mul := op_mul.or (op_mul_ib.or op_rep)
def oMul (x y : Rs) (ρ : En) (Q : Rs → En → Prop) : Prop := wn x ρ fun dx => wn y ρ fun dy => match dx, dy with
  | .int i, .int j => CMul i j ∧ Q (.val (.int (i * j))) ρ
  | .int i, .bl b => Q (.val (.int (i * if b = true then (1 : Int) else 0))) ρ
  | .lst xs, .int k => (-(2 ^ 63) ≤ k ∧ k < 2 ^ 63 ∧ xs.length * k.toNat ≤ sizeLine) ∧ Q (.val (.lst (List.replicate k.toNat xs).flatten)) ρ
  | _, _ => False
theorem RpAll.rep {ds : List D} {vs : List V} (h : RpAll K H U ds vs) : ∀ n, RpAll K H U (List.replicate n ds).flatten (List.replicate n vs).flatten
  | 0 => by simp [RpAll]
  | n + 1 => by rw [List.replicate_succ, List.replicate_succ, List.flatten_cons, List.flatten_cons]; exact h.app (h.rep n)
theorem simMul : SimR2 K r2Mul oMul := by
  intro F U ρ σ H x y rx ry Q3 Q2 e R h1 h2 h k
  obtain ⟨dx, e1, h⟩ := wn_out h
  obtain ⟨dy, e2, h⟩ := wn_out h
  have f1 := Rs.dat_of_datN e1
  have f2 := Rs.dat_of_datN e2
  subst e
  cases dx <;> cases dy
  all_goals first | exact h.elim | skip
  · exact .inr (.inl ⟨_, _, h1.int R f1, h2.bl R f2, k (.val (.int _)) _ _ _ R (.refl R) (show Rp F.K H U _ _ from rp_int) h⟩)
  · exact .inl ⟨_, _, h1.int R f1, h2.int R f2, h.1, k (.val (.int _)) _ _ _ R (.refl R) (show Rp F.K H U _ _ from rp_int) h.2⟩
  · obtain ⟨a, vs, rfl, q1, q2⟩ := h1.lstN R e1
    exact .inr (.inr ⟨a, _, vs, rfl, h2.int R f2, q1, h.1.1, h.1.2.1, by rw [q2.len]; exact h.1.2.2, fun p hp =>
      k (.val (.lst _)) _ _ _ (R.ext (ext_new hp)) (.ext (ext_new hp)) (rp_newL R hp (q2.rep _)) h.2⟩)
end
end L3

set_option Elab.async false
set_option linter.all false
set_option maxRecDepth 100000
namespace L3
open PySem L2
open PyProof.Rows (b2i)

section
variable {F : Fr} {U : US} {ρ ρ' ρ2 : En} {σ : St} {H H' H2 : Hp} {K : PySem.W.Frag}
/-! ### tests -/
def wb (r : Rs) (ρ : En) (k : Bool → Prop) : Prop := wd r ρ fun d => match d with
  | .bl b => k b
  | _ => False
theorem wb_out {r : Rs} {k : Bool → Prop} (h : wb r ρ k) : ∃ b, r.dat ρ = some (.bl b) ∧ k b := by
  obtain ⟨d, e, h⟩ := wd_out h
  cases d <;> first | exact ⟨_, e, h⟩ | exact h.elim
def fTst (f : T3E) : T3T := fun ρ Q => f ρ fun r ρ1 => wb r ρ1 fun b => Q b ρ1
theorem simTst {t : TE} {f : T3E} (h : SimE K t f) : SimT K (tTest t) (fTst f) := by
  intro F U ρ σ H Q3 Q2 e R q k
  refine h F U ρ σ H _ _ e R q fun r v ρ1 H1 R1 s1 q1 h1 => ?_
  obtain ⟨b, e1, h1⟩ := wb_out h1
  exact ⟨b, q1.bl R1 e1, k b ρ1 H1 R1 s1 h1⟩
theorem simTB {t : TE} {f : T3E} (h : SimE K t f) : SimT K (tB t) (fTst f) := simTst h
/-- truth -/
def wtru (d : D) (k : Bool → Prop) : Prop := match d with
  | .non => k false
  | .bl b => k b
  | .int i => k (i != 0)
  | .str z => z.length ≤ sizeLine ∧ k ((z.length : Int) != 0)
  | .lst xs => k (!xs.isEmpty)
  | .tup xs => k (!xs.isEmpty)
  | _ => False
theorem isE_of {ds : List D} {vs : List V} (h : RpAll K H U ds vs) : vs.isEmpty = ds.isEmpty := by
  have := h.len
  cases ds <;> cases vs <;> first | rfl | simp at this
theorem wtru_out (R : Rel F U ρ σ H) {r : Rs} {v : V} {d : D} {k : Bool → Prop} (h : RV F U σ H r v) (e : r.dat ρ = some d) (q : wtru d k) : ∃ b, TruV F.K v H b ∧ k b := by
  cases d with
  | non => rw [h.non R e]; exact ⟨false, rfl, q⟩
  | bl b => rw [h.bl R e]; exact ⟨b, rfl, q⟩
  | int i => rw [h.int R e]; exact ⟨_, rfl, q⟩
  | str z => rw [h.str R e]; exact ⟨_, ⟨q.1, rfl⟩, q.2⟩
  | lst ds =>
    obtain ⟨a, vs, rfl, h1, h2⟩ := h.lst R e
    exact ⟨_, .inl ⟨vs, h1, by rw [isE_of h2]⟩, q⟩
  | tup ds =>
    obtain ⟨a, vs, rfl, h1, h2, _⟩ := h.tup R e
    exact ⟨_, .inr (.inl ⟨vs, h1, by rw [isE_of h2]⟩), q⟩
  | _ => exact q.elim
def fTru (f : T3E) : T3T := fun ρ Q => f ρ fun r ρ1 => wd r ρ1 fun d => wtru d fun b => Q b ρ1
theorem simTru {t : TE} {f : T3E} (h : SimE K t f) : SimT K (fun σ H Q => t σ H fun x H' => ∃ k, TruV K x H' k ∧ Q k H') (fTru f) := by
  intro F U ρ σ H Q3 Q2 e R q k
  subst e
  refine h F U ρ σ H _ _ rfl R q fun r v ρ1 H1 R1 s1 q1 h1 => ?_
  obtain ⟨d, e1, h1⟩ := wd_out h1
  obtain ⟨b, t1, h1⟩ := wtru_out R1 q1 e1 h1
  exact ⟨b, t1, k b ρ1 H1 R1 s1 h1⟩
def fAnd (f g : T3T) : T3T := fun ρ Q => f ρ fun b ρ1 => if b = true then g ρ1 Q else Q false ρ1
def fOr (f g : T3T) : T3T := fun ρ Q => f ρ fun b ρ1 => if b = true then Q true ρ1 else g ρ1 Q
def fNot (f : T3T) : T3T := fun ρ Q => f ρ fun b ρ1 => Q (!b) ρ1
theorem simAnd {t u : TT} {f g : T3T} (h : SimT K t f) (h' : SimT K u g) : SimT K (tAnd t u) (fAnd f g) := by
  intro F U ρ σ H Q3 Q2 e R q k
  refine h F U ρ σ H _ _ e R q fun b ρ1 H1 R1 s1 h1 => ?_
  cases b with
  | true => exact h' F U ρ1 σ H1 _ _ e R1 h1 fun c ρ2 H2 R2 s2 h2 => k c ρ2 H2 R2 (s1.trans s2) h2
  | false => exact k false ρ1 H1 R1 s1 h1
theorem simOr {t u : TT} {f g : T3T} (h : SimT K t f) (h' : SimT K u g) : SimT K (tOr t u) (fOr f g) := by
  intro F U ρ σ H Q3 Q2 e R q k
  refine h F U ρ σ H _ _ e R q fun b ρ1 H1 R1 s1 h1 => ?_
  cases b with
  | false => exact h' F U ρ1 σ H1 _ _ e R1 h1 fun c ρ2 H2 R2 s2 h2 => k c ρ2 H2 R2 (s1.trans s2) h2
  | true => exact k true ρ1 H1 R1 s1 h1
theorem simNot {t : TT} {f : T3T} (h : SimT K t f) : SimT K (tNot t) (fNot f) := by
  intro F U ρ σ H Q3 Q2 e R q k
  exact h F U ρ σ H _ _ e R q fun b ρ1 H1 R1 s1 h1 => k (!b) ρ1 H1 R1 s1 h1
/-- .. as values -/
def eAnd (f g : T3E) : T3E := fun ρ Q => f ρ fun r ρ1 => wd r ρ1 fun d => wtru d fun b => if b = true then g ρ1 Q else Q r ρ1
def eOr (f g : T3E) : T3E := fun ρ Q => f ρ fun r ρ1 => wd r ρ1 fun d => wtru d fun b => if b = true then Q r ρ1 else g ρ1 Q
def eNot (f : T3E) : T3E := fun ρ Q => f ρ fun r ρ1 => wd r ρ1 fun d => wtru d fun b => Q (.val (.bl (!b))) ρ1
theorem simAndV {t u : TE} {f g : T3E} (h : SimE K t f) (h' : SimE K u g) : SimE K (tAndT K t u) (eAnd f g) := by
  intro F U ρ σ H Q3 Q2 e R q k
  subst e
  refine h F U ρ σ H _ _ rfl R q fun r v ρ1 H1 R1 s1 q1 h1 => ?_
  obtain ⟨d, e1, h1⟩ := wd_out h1
  obtain ⟨b, t1, h1⟩ := wtru_out R1 q1 e1 h1
  refine ⟨b, t1, ?_⟩
  cases b with
  | true => exact h' F U ρ1 σ H1 _ _ rfl R1 h1 fun c w ρ2 H2 R2 s2 q2 h2 => k c w ρ2 H2 R2 (s1.trans s2) q2 h2
  | false => exact k r v ρ1 H1 R1 s1 q1 h1
theorem simOrV {t u : TE} {f g : T3E} (h : SimE K t f) (h' : SimE K u g) : SimE K (tOrT K t u) (eOr f g) := by
  intro F U ρ σ H Q3 Q2 e R q k
  subst e
  refine h F U ρ σ H _ _ rfl R q fun r v ρ1 H1 R1 s1 q1 h1 => ?_
  obtain ⟨d, e1, h1⟩ := wd_out h1
  obtain ⟨b, t1, h1⟩ := wtru_out R1 q1 e1 h1
  refine ⟨b, t1, ?_⟩
  cases b with
  | false => exact h' F U ρ1 σ H1 _ _ rfl R1 h1 fun c w ρ2 H2 R2 s2 q2 h2 => k c w ρ2 H2 R2 (s1.trans s2) q2 h2
  | true => exact k r v ρ1 H1 R1 s1 q1 h1
theorem simNotV {t : TE} {f : T3E} (h : SimE K t f) : SimE K (tNotT K t) (eNot f) := by
  intro F U ρ σ H Q3 Q2 e R q k
  subst e
  refine h F U ρ σ H _ _ rfl R q fun r v ρ1 H1 R1 s1 q1 h1 => ?_
  obtain ⟨d, e1, h1⟩ := wd_out h1
  obtain ⟨b, t1, h1⟩ := wtru_out R1 q1 e1 h1
  exact ⟨b, t1, k (.val (.bl (!b))) _ ρ1 H1 R1 s1 (show Rp _ _ _ _ _ from rp_bl) h1⟩
def eIf (f : T3T) (g h : T3E) : T3E := fun ρ Q => f ρ fun b ρ1 => if b = true then g ρ1 Q else h ρ1 Q
theorem simIf {t : TT} {u w : TE} {f : T3T} {g g' : T3E} (h : SimT K t f) (h1 : SimE K u g) (h2 : SimE K w g') : SimE K (tIf t u w) (eIf f g g') := by
  intro F U ρ σ H Q3 Q2 e R q k
  refine h F U ρ σ H _ _ e R q fun b ρ1 H1 R1 s1 q1 => ?_
  cases b with
  | true => exact h1 F U ρ1 σ H1 _ _ e R1 q1 fun c w ρ2 H2 R2 s2 q2 h2 => k c w ρ2 H2 R2 (s1.trans s2) q2 h2
  | false => exact h2 F U ρ1 σ H1 _ _ e R1 q1 fun c w ρ2 H2 R2 s2 q2 h2 => k c w ρ2 H2 R2 (s1.trans s2) q2 h2
/-- a < b < c -/
def eChain (r3 r3' : Rs → Rs → En → (Rs → En → Prop) → Prop) (fa fb fc : T3E) : T3E := fun ρ Q => fa ρ fun x ρ1 => fb ρ1 fun y ρ2 => r3 x y ρ2 fun z ρ3 => wb z ρ3 fun b => if b = true then fc ρ3 fun w ρ4 => r3' y w ρ4 Q else Q (.val (.bl false)) ρ3
theorem simChain {r r' : R2} {r3 r3' : Rs → Rs → En → (Rs → En → Prop) → Prop} {ta tb tc : TE} {fa fb fc : T3E} (h : SimR2 K r r3) (h' : SimR2 K r' r3') (ha : SimE K ta fa) (hb : SimE K tb fb) (hc : SimE K tc fc) :
    SimE K (tChain r r' ta tb tc) (eChain r3 r3' fa fb fc) := by
  intro F U ρ σ H Q3 Q2 e R q k
  refine ha F U ρ σ H _ _ e R q fun x v ρ1 H1 R1 s1 q1 h1 => ?_
  refine hb F U ρ1 σ H1 _ _ e R1 h1 fun y u ρ2 H2 R2 s2 q2 h2 => ?_
  refine h F U ρ2 σ H2 v u x y _ _ e R2 (q1.pres (s2.pres R1)) q2 h2 fun z w ρ3 H3 R3 s3 q3 h3 => ?_
  obtain ⟨b, e3, h3⟩ := wb_out h3
  refine ⟨b, q3.bl R3 e3, ?_⟩
  cases b with
  | false => exact k (.val (.bl false)) _ ρ3 H3 R3 ((s1.trans s2).trans s3) (show Rp _ _ _ _ _ from rp_bl) h3
  | true =>
    refine hc F U ρ3 σ H3 _ _ e R3 h3 fun w t ρ4 H4 R4 s4 q4 h4 => ?_
    exact h' F U ρ4 σ H4 u t y w _ _ e R4 ((q2.pres (s3.pres R2)).pres (s4.pres R3)) q4 h4 fun z t ρ5 H5 R5 s5 q5 h5 => k z t ρ5 H5 R5 ((((s1.trans s2).trans s3).trans s4).trans s5) q5 h5

/-! ### subscripts, slices -/
def wo {α : Type} (o : Option α) (k : α → Prop) : Prop := match o with
  | some x => k x
  | none => False
theorem wo_out {α : Type} {o : Option α} {k : α → Prop} (h : wo o k) : ∃ x, o = some x ∧ k x := by
  cases o with
  | none => exact h.elim
  | some x => exact ⟨x, rfl, h⟩
def oIdx (x y : Rs) (ρ : En) (Q : Rs → En → Prop) : Prop := wd x ρ fun dx => wd y ρ fun dy => match dx, dy with
  | .lst ds, .int i => wo (atI ds i) fun d => Q (.val d) ρ
  | .tup ds, .int i => wo (atI ds i) fun d => Q (.val d) ρ
  | .str z, .int i => z.length ≤ sizeLine ∧ wo (atI z.cps.toList i) fun c => Q (.val (.str ⟨#[c]⟩)) ρ
  | _, _ => False
theorem simIdx : SimR2 K (rIx K) oIdx := by
  intro F U ρ σ H x y rx ry Q3 Q2 e R h1 h2 h k
  obtain ⟨dx, e1, h⟩ := wd_out h
  obtain ⟨dy, e2, h⟩ := wd_out h
  subst e
  cases dx <;> cases dy
  all_goals first | exact h.elim | skip
  · obtain ⟨hz, h⟩ := h
    obtain ⟨c, ec, h⟩ := wo_out h
    exact .inr (.inr ⟨_, _, c, h1.str R e1, h2.int R e2, hz, ec, k (.val (.str _)) _ _ _ R (.refl R) (show Rp _ _ _ _ _ from rp_str) h⟩)
  · obtain ⟨d, ed, h⟩ := wo_out h
    obtain ⟨a, vs, rfl, q1, q2, _⟩ := h1.tup R e1
    obtain ⟨v, ev, q3⟩ := q2.atI ed
    exact .inr (.inl ⟨a, vs, _, v, rfl, h2.int R e2, q1, ev, k (.val d) _ _ _ R (.refl R) (show Rp _ _ _ _ _ from q3) h⟩)
  · obtain ⟨d, ed, h⟩ := wo_out h
    obtain ⟨a, vs, rfl, q1, q2⟩ := h1.lst R e1
    obtain ⟨v, ev, q3⟩ := q2.atI ed
    exact .inl ⟨a, vs, _, v, rfl, h2.int R e2, q1, ev, k (.val d) _ _ _ R (.refl R) (show Rp _ _ _ _ _ from q3) h⟩
abbrev T3O := En → (Option Int → En → Prop) → Prop
def SimO (K : PySem.W.Frag) (t2 : TO) (t3 : T3O) : Prop :=
  ∀ (F : Fr) (U : US) (ρ : En) (σ : St) (H : Hp) (Q3 : Option Int → En → Prop) (Q2 : Option Int → Hp → Prop), F.K = K → Rel F U ρ σ H → t3 ρ Q3 →
    (∀ o ρ' H', Rel F U ρ' σ H' → Stp ρ σ H ρ' H' → Q3 o ρ' → Q2 o H') → t2 σ H Q2
def pNo : T3O := fun ρ Q => Q none ρ
def pSo (f : T3E) : T3O := fun ρ Q => f ρ fun r ρ1 => wd r ρ1 fun d => match d with
  | .int i => Q (some i) ρ1
  | _ => False
theorem simNo : SimO K tNoPart pNo := fun F U ρ σ H Q3 Q2 e R q k => k none ρ H R (.refl R) q
theorem simSo {t : TE} {f : T3E} (h : SimE K t f) : SimO K (tPart t) (pSo f) := by
  intro F U ρ σ H Q3 Q2 e R q k
  refine h F U ρ σ H _ _ e R q fun r v ρ1 H1 R1 s1 q1 h1 => ?_
  obtain ⟨d, e1, h1⟩ := wd_out h1
  cases d <;> first | exact h1.elim | exact ⟨_, q1.int R1 e1, k (some _) ρ1 H1 R1 s1 h1⟩
def cutL {α : Type} (xs : List α) (lo hi : Option Int) : List α := (xs.drop (HT.sIx xs.length 0 lo)).take (HT.sIx xs.length xs.length hi - HT.sIx xs.length 0 lo)
theorem RpAll.cut {ds : List D} {vs : List V} (h : RpAll K H U ds vs) (lo hi : Option Int) : RpAll K H U (cutL ds lo hi) (cutV vs lo hi) := by
  unfold cutL cutV
  rw [h.len]
  exact (h.drop _).take _
def r2Sl (K : PySem.W.Frag) : V → Option Int → Option Int → Hp → VK → Prop := fun x lo hi H Q => rSlL K x lo hi H Q ∨ (rSlF K x lo hi H Q ∨ rSlS x lo hi H Q)
theorem sl_P {X : Cx} : SlR X (r2Sl X.K) := sl_list.or (sl_tupF.or sl_str)
def eSl (f : T3E) (l h : T3O) : T3E := fun ρ Q => f ρ fun r ρ1 => l ρ1 fun lo ρ2 => h ρ2 fun hi ρ3 => wd r ρ3 fun d => match d with
  | .lst ds => Q (.val (.lst (cutL ds lo hi))) ρ3
  | .tup ds => Q (.val (.tup (cutL ds lo hi))) ρ3
  | .str z => z.length ≤ sizeLine ∧ Q (.val (.str (cutS z lo hi))) ρ3
  | _ => False
theorem simSl {t : TE} {l h : TO} {f : T3E} {l3 h3 : T3O} (ht : SimE K t f) (hl : SimO K l l3) (hh : SimO K h h3) : SimE K (tSl (r2Sl K) t l h) (eSl f l3 h3) := by
  intro F U ρ σ H Q3 Q2 e R q k
  refine ht F U ρ σ H _ _ e R q fun r v ρ1 H1 R1 s1 q1 h1 => ?_
  refine hl F U ρ1 σ H1 _ _ e R1 h1 fun lo ρ2 H2 R2 s2 h2 => ?_
  refine hh F U ρ2 σ H2 _ _ e R2 h2 fun hi ρ3 H3 R3 s3 h3 => ?_
  have q3 := (q1.pres (s2.pres R1)).pres (s3.pres R2)
  have s := (s1.trans s2).trans s3
  obtain ⟨d, e1, h3⟩ := wd_out h3
  subst e
  cases d <;> first | exact h3.elim | skip
  · exact .inr (.inr ⟨_, q3.str R3 e1, h3.1, k (.val (.str _)) _ ρ3 H3 R3 s (show Rp _ _ _ _ _ from rp_str) h3.2⟩)
  · rename_i ds
    obtain ⟨a, vs, rfl, z1, z2, z3⟩ := q3.tup R3 e1
    refine .inr (.inl ⟨a, vs, rfl, z1, fun w => ?_, fun w p ob hp hob => ?_⟩)
    · have e : cutL ds lo hi = ds := by
        unfold cutL
        rw [z2.len] at w
        rw [w.1, w.2]
        simp
      have h3 : Q3 (.val (.tup (cutL ds lo hi))) ρ3 := h3
      rw [e] at h3
      exact k (.val (.tup ds)) _ ρ3 H3 R3 s (show Rp _ _ _ _ _ from z3) h3
    · exact k (.val (.tup _)) _ ρ3 _ (R3.ext (ext_new hp)) (s.trans (.ext (ext_new hp))) (rp_newT R3 hob hp (z2.cut lo hi)) h3
  · obtain ⟨a, vs, rfl, z1, z2⟩ := q3.lst R3 e1
    exact .inl ⟨a, vs, rfl, z1, fun p hp => k (.val (.lst _)) _ ρ3 _ (R3.ext (ext_new hp)) (s.trans (.ext (ext_new hp))) (rp_newL R3 hp (z2.cut lo hi)) h3⟩

/-! ### arguments, displays -/
def aNil : T3A := fun ρ Q => Q [] ρ
def aCons (f : T3E) (g : T3A) : T3A := fun ρ Q => f ρ fun r ρ1 => g ρ1 fun rs ρ2 => Q (r :: rs) ρ2
theorem simNil : SimA K tNil aNil := fun F U ρ σ H Q3 Q2 e R q k => k [] [] ρ H R (.refl R) .nil q
theorem simCons {t : TE} {u : TA} {f : T3E} {g : T3A} (h : SimE K t f) (h' : SimA K u g) : SimA K (tCons t u) (aCons f g) := by
  intro F U ρ σ H Q3 Q2 e R q k
  refine h F U ρ σ H _ _ e R q fun r v ρ1 H1 R1 s1 q1 h1 => ?_
  exact h' F U ρ1 σ H1 _ _ e R1 h1 fun rs vs ρ2 H2 R2 s2 q2 h2 => k (r :: rs) (v :: vs) ρ2 H2 R2 (s1.trans s2) (.cons (q1.pres (s2.pres R1)) q2) h2
/-- all are shared values -/
def allV : List Rs → (List D → Prop) → Prop
  | [], k => k []
  | .val d :: rs, k => allV rs fun ds => k (d :: ds)
  | .sl _ :: _, _ => False
  | .bx _ _ _ :: _, _ => False
theorem allV_out : ∀ {rs : List Rs} {vs : List V} {k : List D → Prop}, RVs F U σ H rs vs → allV rs k → ∃ ds, RpAll F.K H U ds vs ∧ ds.length = rs.length ∧ k ds
  | [], _, _, .nil, h => ⟨[], by simp [RpAll], rfl, h⟩
  | .val d :: rs, _, _, .cons q qs, h => by
    obtain ⟨ds, h1, h2, h3⟩ := allV_out qs h
    exact ⟨d :: ds, by simp only [RpAll]; exact ⟨_, _, rfl, q, h1⟩, by rw [List.length_cons, List.length_cons, h2], h3⟩
  | .sl _ :: _, _, _, _, h => h.elim
  | .bx _ _ _ :: _, _, _, _, h => h.elim
def eTup (g : T3A) : T3E := fun ρ Q => g ρ fun rs ρ1 => allV rs fun ds => ds.length ≤ sizeLine ∧ Q (.val (.tup ds)) ρ1
def eLst (g : T3A) : T3E := fun ρ Q => g ρ fun rs ρ1 => allV rs fun ds => ds.length ≤ sizeLine ∧ Q (.val (.lst ds)) ρ1
theorem simTup {u : TA} {g : T3A} (h : SimA K u g) : SimE K (tTupF u) (eTup g) := by
  intro F U ρ σ H Q3 Q2 e R q k
  refine h F U ρ σ H _ _ e R q fun rs vs ρ1 H1 R1 s1 q1 h1 => ?_
  obtain ⟨ds, z1, z2, z3, z4⟩ := allV_out q1 h1
  exact ⟨by rw [z1.len]; exact z3, fun p ob hp hob => k (.val (.tup ds)) _ ρ1 _ (R1.ext (ext_new hp)) (s1.trans (.ext (ext_new hp))) (rp_newT R1 hob hp z1) z4⟩
theorem simLst {u : TA} {g : T3A} (h : SimA K u g) : SimE K (tLst u) (eLst g) := by
  intro F U ρ σ H Q3 Q2 e R q k
  refine h F U ρ σ H _ _ e R q fun rs vs ρ1 H1 R1 s1 q1 h1 => ?_
  obtain ⟨ds, z1, z2, z3, z4⟩ := allV_out q1 h1
  exact ⟨by rw [z1.len]; exact z3, fun p hp => k (.val (.lst ds)) _ ρ1 _ (R1.ext (ext_new hp)) (s1.trans (.ext (ext_new hp))) (rp_newL R1 hp z1) z4⟩

/-! ### calls of built-ins -/
def eCB (r3 : List Rs → En → (Rs → En → Prop) → Prop) (g : T3A) : T3E := fun ρ Q => g ρ fun rs ρ1 => r3 rs ρ1 Q
theorem simCB {r2 : List V → Hp → VK → Prop} {r3 : List Rs → En → (Rs → En → Prop) → Prop} {u : TA} {g : T3A} (hr : SimCR K r2 r3) (h : SimA K u g) : SimE K (tCB r2 u) (eCB r3 g) := by
  intro F U ρ σ H Q3 Q2 e R q k
  refine h F U ρ σ H _ _ e R q fun rs vs ρ1 H1 R1 s1 q1 h1 => ?_
  exact hr F U ρ1 σ H1 vs rs _ _ e R1 q1 h1 fun r v ρ2 H2 R2 s2 q2 h2 => k r v ρ2 H2 R2 (s1.trans s2) q2 h2
def w1 (rs : List Rs) (ρ : En) (k : D → Prop) : Prop := match rs with
  | [x] => wd x ρ k
  | _ => False
theorem w1_out {rs : List Rs} {vs : List V} {k : D → Prop} (q : RVs F U σ H rs vs) (h : w1 rs ρ k) : ∃ x v d, rs = [x] ∧ vs = [v] ∧ RV F U σ H x v ∧ x.dat ρ = some d ∧ k d := by
  cases q with
  | nil => exact h.elim
  | cons q qs =>
    cases qs with
    | nil =>
      obtain ⟨d, e, h⟩ := wd_out h
      exact ⟨_, _, d, rfl, rfl, q, e, h⟩
    | cons _ _ => exact h.elim
def cLen (rs : List Rs) (ρ : En) (Q : Rs → En → Prop) : Prop := w1 rs ρ fun d => match d with
  | .lst ds => Q (.val (.int ds.length)) ρ
  | .tup ds => Q (.val (.int ds.length)) ρ
  | .str z => z.length ≤ sizeLine ∧ Q (.val (.int z.length)) ρ
  | _ => False
theorem simLen : SimCR K (fun xs H Q => ∃ x n, xs = [x] ∧ LenV K x H n ∧ Q (.int n) H) cLen := by
  intro F U ρ σ H vs rs Q3 Q2 e R q h k
  obtain ⟨x, v, d, rfl, rfl, q1, e1, h⟩ := w1_out q h
  subst e
  cases d <;> first | exact h.elim | skip
  · rw [q1.str R e1]
    exact ⟨_, _, rfl, ⟨h.1, rfl⟩, k (.val (.int _)) _ _ _ R (.refl R) (show Rp _ _ _ _ _ from rp_int) h.2⟩
  · obtain ⟨a, vs, rfl, z1, z2, _⟩ := q1.tup R e1
    exact ⟨_, vs.length, rfl, .inr ⟨vs, z1, rfl⟩, by rw [z2.len]; exact k (.val (.int _)) _ _ _ R (.refl R) (show Rp _ _ _ _ _ from rp_int) h⟩
  · obtain ⟨a, vs, rfl, z1, z2⟩ := q1.lst R e1
    exact ⟨_, vs.length, rfl, .inl ⟨vs, z1, rfl⟩, by rw [z2.len]; exact k (.val (.int _)) _ _ _ R (.refl R) (show Rp _ _ _ _ _ from rp_int) h⟩
def cInt (rs : List Rs) (ρ : En) (Q : Rs → En → Prop) : Prop := w1 rs ρ fun d => match d with
  | .int i => Q (.val (.int i)) ρ
  | .bl b => Q (.val (.int (if b then 1 else 0))) ρ
  | _ => False
theorem simInt : SimCR K (fun xs H Q => (∃ i, xs = [.int i] ∧ Q (.int i) H) ∨ ∃ k, xs = [.bl k] ∧ Q (.int (if k then 1 else 0)) H) cInt := by
  intro F U ρ σ H vs rs Q3 Q2 e R q h k
  obtain ⟨x, v, d, rfl, rfl, q1, e1, h⟩ := w1_out q h
  cases d <;> first | exact h.elim | skip
  · exact .inr ⟨_, by rw [q1.bl R e1], k (.val (.int _)) _ _ _ R (.refl R) (show Rp _ _ _ _ _ from rp_int) h⟩
  · exact .inl ⟨_, by rw [q1.int R e1], k (.val (.int _)) _ _ _ R (.refl R) (show Rp _ _ _ _ _ from rp_int) h⟩
def cAbs (rs : List Rs) (ρ : En) (Q : Rs → En → Prop) : Prop := w1 rs ρ fun d => match d with
  | .int i => Q (.val (.int (if i < 0 then -i else i))) ρ
  | _ => False
theorem simAbs : SimCR K (fun xs H Q => ∃ i, xs = [.int i] ∧ Q (.int (if i < 0 then -i else i)) H) cAbs := by
  intro F U ρ σ H vs rs Q3 Q2 e R q h k
  obtain ⟨x, v, d, rfl, rfl, q1, e1, h⟩ := w1_out q h
  cases d <;> first | exact h.elim | skip
  exact ⟨_, by rw [q1.int R e1], k (.val (.int _)) _ _ _ R (.refl R) (show Rp _ _ _ _ _ from rp_int) h⟩
/-- list(x), tuple(x) -/
def cList (rs : List Rs) (ρ : En) (Q : Rs → En → Prop) : Prop := w1 rs ρ fun d => match d with
  | .lst ds => Q (.val (.lst ds)) ρ
  | .tup ds => Q (.val (.lst ds)) ρ
  | _ => False
theorem simList : SimCR K (fun xs H Q => ∃ p ys, xs = [.ref p] ∧ (SqL K H p ys ∨ SqT K H p ys) ∧ ∀ l, H l = none → Q (.ref l) (upd H l (.lst ys))) cList := by
  intro F U ρ σ H vs rs Q3 Q2 e R q h k
  obtain ⟨x, v, d, rfl, rfl, q1, e1, h⟩ := w1_out q h
  subst e
  cases d <;> first | exact h.elim | skip
  · obtain ⟨a, vs, rfl, z1, z2, _⟩ := q1.tup R e1
    exact ⟨a, vs, rfl, .inr z1, fun p hp => k (.val (.lst _)) _ _ _ (R.ext (ext_new hp)) (.ext (ext_new hp)) (rp_newL R hp z2) h⟩
  · obtain ⟨a, vs, rfl, z1, z2⟩ := q1.lst R e1
    exact ⟨a, vs, rfl, .inl z1, fun p hp => k (.val (.lst _)) _ _ _ (R.ext (ext_new hp)) (.ext (ext_new hp)) (rp_newL R hp z2) h⟩
def cTuple (rs : List Rs) (ρ : En) (Q : Rs → En → Prop) : Prop := w1 rs ρ fun d => match d with
  | .lst ds => Q (.val (.tup ds)) ρ
  | .tup ds => Q (.val (.tup ds)) ρ
  | _ => False
theorem simTuple : SimCR K (rTupF K) cTuple := by
  intro F U ρ σ H vs rs Q3 Q2 e R q h k
  obtain ⟨x, v, d, rfl, rfl, q1, e1, h⟩ := w1_out q h
  subst e
  cases d <;> first | exact h.elim | skip
  · obtain ⟨a, vs, rfl, z1, z2, z3⟩ := q1.tup R e1
    exact ⟨a, vs, rfl, .inr ⟨z1, k (.val (.tup _)) _ _ _ R (.refl R) (show Rp _ _ _ _ _ from z3) h⟩⟩
  · obtain ⟨a, vs, rfl, z1, z2⟩ := q1.lst R e1
    exact ⟨a, vs, rfl, .inl ⟨z1, fun p ob hp hob => k (.val (.tup _)) _ _ _ (R.ext (ext_new hp)) (.ext (ext_new hp)) (rp_newT R hob hp z2) h⟩⟩
def D.blsOf : List D → Option (List Bool)
  | [] => some []
  | .bl b :: ds => (D.blsOf ds).map (b :: ·)
  | _ => none
theorem blsOf_out : ∀ {ds : List D} {bs : List Bool}, D.blsOf ds = some bs → ds = bs.map D.bl
  | [], _, h => by simp [D.blsOf] at h; subst h; rfl
  | .bl b :: ds, _, h => by
    cases e : D.blsOf ds with
    | none => simp [D.blsOf, e] at h
    | some bs =>
      simp [D.blsOf, e] at h
      subst h
      rw [blsOf_out e]; rfl
  | .non :: _, _, h => by simp [D.blsOf] at h
  | .int _ :: _, _, h => by simp [D.blsOf] at h
  | .str _ :: _, _, h => by simp [D.blsOf] at h
  | .tup _ :: _, _, h => by simp [D.blsOf] at h
  | .lst _ :: _, _, h => by simp [D.blsOf] at h
  | .dic _ :: _, _, h => by simp [D.blsOf] at h
  | .dit _ :: _, _, h => by simp [D.blsOf] at h
  | .obj _ _ :: _, _, h => by simp [D.blsOf] at h
  | .ty _ :: _, _, h => by simp [D.blsOf] at h
  | .cls _ :: _, _, h => by simp [D.blsOf] at h
  | .scr _ :: _, _, h => by simp [D.blsOf] at h
  | .bx _ _ :: _, _, h => by simp [D.blsOf] at h
  | .din _ _ :: _, _, h => by simp [D.blsOf] at h
theorem blsOf_map (bs : List Bool) : D.blsOf (bs.map D.bl) = some bs := by
  induction bs with
  | nil => rfl
  | cons b bs ih => simp [D.blsOf, ih]
def cAll (rs : List Rs) (ρ : En) (Q : Rs → En → Prop) : Prop := w1 rs ρ fun d => match d with
  | .lst ds => wo (D.blsOf ds) fun bs => Q (.val (.bl (bs.all id))) ρ
  | _ => False
theorem simAll : SimCR K (rAll K) cAll := by
  intro F U ρ σ H vs rs Q3 Q2 e R q h k
  obtain ⟨x, v, d, rfl, rfl, q1, e1, h⟩ := w1_out q h
  subst e
  cases d <;> first | exact h.elim | skip
  obtain ⟨bs, eb, h⟩ := wo_out h
  obtain ⟨a, vs, rfl, z1, z2⟩ := q1.lst R e1
  rw [blsOf_out eb] at z2
  rw [z2.bls] at z1
  exact ⟨a, bs, rfl, z1, k (.val (.bl _)) _ _ _ R (.refl R) (show Rp _ _ _ _ _ from rp_bl) h⟩
/-- isinstance with a built-in class -/
def D.tyn : D → Option String
  | .non => some "NoneType"
  | .bl _ => some "bool"
  | .int _ => some "int"
  | .str _ => some "str"
  | .tup _ => some "tuple"
  | .lst _ => some "list"
  | .dic _ => some "dict"
  | _ => none
def isiT (t T : String) : Bool := t == T || (t == "bool" && T == "int")
def isiKnown (t T : String) : Bool := (["NoneType", "bool", "int", "str", "tuple", "list", "dict"].contains t) && (["bool", "int", "str", "tuple", "list", "dict"].contains T)
theorem isi_kit {t T : String} (h : isiKnown t T = true) : PySem.W.kitOne K (.type t) (.type T) = some (isiT t T) := by
  simp only [isiKnown, Bool.and_eq_true, List.contains_eq_mem, List.mem_cons, List.not_mem_nil, or_false, decide_eq_true_eq] at h
  obtain ⟨h1, h2⟩ := h
  rcases h1 with rfl | rfl | rfl | rfl | rfl | rfl | rfl <;> rcases h2 with rfl | rfl | rfl | rfl | rfl | rfl <;> exact kit_ty (by decide +kernel)
theorem TyX_of (R : Rel F U ρ σ H) {r : Rs} {v : V} {d : D} {t : String} (h : RV F U σ H r v) (e : r.dat ρ = some d) (ht : d.tyn = some t) : TyX F.K H v (.type t) := by
  have rdl : ∀ {a vs}, SqL F.K H a vs → TyX F.K H (.ref a) (.type "list") := fun {a vs} z => by
    rcases z with (z | ⟨o, z⟩) | ⟨o, its, n, z, c, _⟩
    · exact .base (.lst z)
    · exact .base (.frz z)
    · exact .kList z c
  cases d <;> simp only [D.tyn, Option.some.injEq, reduceCtorEq] at ht
  all_goals subst ht
  · rw [h.non R e]; exact .base .non
  · rw [h.bl R e]; exact .base (.bl _)
  · rw [h.int R e]; exact .base (.int _)
  · rw [h.str R e]; exact .base (.str _)
  · obtain ⟨a, vs, rfl, z, _⟩ := h.tup R e
    rcases z with (z | ⟨o, z⟩) | ⟨o, its, n, z, c, _⟩
    · exact .base (.tup z)
    · exact .fTuple z
    · exact .kTuple z c
  · obtain ⟨a, vs, rfl, z, _⟩ := h.lst R e
    exact rdl z
  · rcases h.get R e with q | ⟨a, rfl, vs, z, _⟩
    · simp only [Rp] at q
      obtain ⟨a, vs, rfl, z, _⟩ := q
      rcases z with z | ⟨o, z⟩
      · exact .base (.dK z)
      · exact .fDict z
    · rcases z with z | ⟨o, z⟩
      · exact .base (.dK z)
      · exact .fDict z
def cIsi (rs : List Rs) (ρ : En) (Q : Rs → En → Prop) : Prop := match rs with
  | [x, .val (.ty T)] => wd x ρ fun d => wo d.tyn fun t => isiKnown t T = true ∧ Q (.val (.bl (isiT t T))) ρ
  | _ => False
theorem simIsi : SimCR K (rIsi K) cIsi := by
  intro F U ρ σ H vs rs Q3 Q2 e R q h k
  subst e
  unfold cIsi at h
  split at h
  · rename_i x T
    cases q with
    | cons q1 qs =>
      cases qs with
      | cons q2 qs =>
        cases qs
        obtain ⟨d, e1, h⟩ := wd_out h
        obtain ⟨t, e2, h⟩ := wo_out h
        have q2 : Rp F.K H U (.ty T) _ := q2
        simp only [Rp] at q2
        subst q2
        exact ⟨_, _, .type t, .type T, isiT t T, rfl, .ty T, TyX_of R q1 e1 e2, isi_kit h.1, k (.val (.bl _)) _ _ _ R (.refl R) (show Rp _ _ _ _ _ from rp_bl) h.2⟩
  · exact h.elim
end
end L3

set_option Elab.async false
set_option linter.all false
set_option maxRecDepth 100000
namespace L3
open PySem L2
open PyProof.Rows (b2i)

def Fr.at (F : Fr) (U : US) (ρ : En) (σ : St) (H : Hp) : Fr := ⟨F.K, H, U, Own ρ σ, σ, fun i l => ∃ s : Sl, ρ[i]? = some s ∧ s.lk = some l⟩
section
variable {F : Fr} {U U2 : US} {ρ ρ' ρ2 : En} {σ σ2 : St} {H H' H2 : Hp} {K : PySem.W.Frag}
theorem Rel.b0' (R : Rel F U ρ σ H) {j : Nat} {d : D} (h : ∃ s : Sl, ρ[j]? = some s ∧ s.lk = some (some d)) : (∃ v, σ[j]? = some (some v) ∧ Rp F.K H U d v) ∨ (∃ (a : Addr), σ[j]? = some (some (.ref a)) ∧ ∀ x, d.reg a x → ∃ o, H x = some o) := by
  obtain ⟨s, h1, h2⟩ := h
  have hj : j < σ.length := by rw [← R.len]; exact (List.getElem?_eq_some_iff.mp h1).1
  have hσ : σ[j]? = some σ[j] := List.getElem?_eq_getElem hj
  cases s <;> first | cases h2 | skip
  rcases R.bor j d _ h1 hσ with ⟨v, e, r⟩ | ⟨a, e, t, _⟩
  · exact .inl ⟨v, by rw [hσ, e], r⟩
  · exact .inr ⟨a, by rw [hσ, e], t.some⟩
theorem Rel.start (R : Rel F U ρ σ H) : Rel (F.at U ρ σ H) U ρ σ H :=
  ⟨R.len, R.slot, R.bor, R.inj, R.tr, fun _ _ h _ => h, fun _ o h => ⟨o, h⟩, fun _ _ _ n => n, fun _ h _ => h, fun _ h => .inl h, fun i s l h q => ⟨⟨s, h, q⟩, rfl⟩, fun _ h => R.ownU h, fun j d h => R.b0' h, R.tr⟩
theorem Rel.unbase (R : Rel F U ρ σ H) (R2 : Rel (F.at U ρ σ H) U2 ρ2 σ2 H2) : Rel F U2 ρ2 σ2 H2 := by
  refine ⟨R2.len, R2.slot, R2.bor, R2.inj, R2.tr, fun a o h n => ?_, fun a o h => ?_, fun a o h n => ?_, fun a h n => R2.up a (R.up a h n) fun w => n (R.own0 w h), fun a h => ?_, fun i s l h q => ?_, R.wu, R.b0, R.u0⟩
  · refine R2.keep a o (R.keep a o h n) fun w => ?_
    rcases R.new a w with z | z
    · exact n z
    · rw [z] at h; cases h
  · obtain ⟨o', h'⟩ := R.ktr a o h
    exact R2.ktr a o' h'
  · obtain ⟨o', h'⟩ := R.ktr a o h
    exact R2.shar a o' h' (R.shar a o h n)
  · rcases R2.new a h with z | z
    · exact R.new a z
    · refine .inr ?_
      cases e : F.H0 a with
      | none => rfl
      | some o =>
        obtain ⟨o', h'⟩ := R.ktr a o e
        have z : H a = none := z
        rw [z] at h'; cases h'
  · obtain ⟨⟨s', h', l'⟩, e⟩ := R2.lock i s l h q
    obtain ⟨z1, z2⟩ := R.lock i s' l h' l'
    exact ⟨z1, e.trans z2⟩

/-! ### what a loop holds while it walks: a lent slot -/
def lockI (ρ : En) (i : Nat) : En := match ρ[i]? with
  | some (.own d) => ρ.set i (.brw d)
  | some (.par d) => ρ.set i (.brw d)
  | some (.owb d) => ρ.set i (.brw d)
  | some (.pab d) => ρ.set i (.brw d)
  | _ => ρ
def lockE (ρ : En) : Rs → En
  | .val _ => ρ
  | .sl i => lockI ρ i
  | .bx i _ _ => lockI ρ i
def unlockI (ρ0 : En) (i : Nat) (ρ : En) : En := match ρ0[i]? with
  | some (.own d) => ρ.set i (.own d)
  | some (.par d) => ρ.set i (.par d)
  | some (.owb d) => ρ.set i (.owb d)
  | some (.pab d) => ρ.set i (.pab d)
  | _ => ρ
def unlockE (ρ0 : En) (r : Rs) (ρ : En) : En := match r with
  | .val _ => ρ
  | .sl i => unlockI ρ0 i ρ
  | .bx i _ _ => unlockI ρ0 i ρ
def isB (ρ : En) (i : Nat) : Prop := match ρ[i]? with
  | some (.brw _) => True
  | _ => False
def okI (ρ0 : En) (i : Nat) (ρ : En) : Prop := match ρ0[i]? with
  | some s => match s.isW with
    | true => isB ρ i
    | false => True
  | none => True
def okL (ρ0 : En) (r : Rs) (ρ : En) : Prop := match r with
  | .val _ => True
  | .sl i => okI ρ0 i ρ
  | .bx i _ _ => okI ρ0 i ρ
theorem reg_dat {s : Sl} {d : D} {a x : Addr} (w : s.isW = true) (hd : s.dat = some d) (h : s.reg (some (.ref a)) x) : d.reg a x := by
  rcases h.2 with h | h
  · cases h; exact .inl rfl
  · cases s <;> first | (cases h; done) | (cases hd; exact .inr h)
theorem topR_of {K : PySem.W.Frag} {s : Sl} {d : D} {a : Addr} (w : s.isW = true) (hd : s.dat = some d) (q : SlotOk K H U s (some (.ref a))) : TopR K H U d a := by
  cases s with
  | own d' => cases hd; obtain ⟨b, e, _, t⟩ := q; cases e; exact t.r
  | par d' => cases hd; obtain ⟨b, e, _, t⟩ := q; cases e; exact t.r
  | owb d' => cases hd; obtain ⟨b, e, _, t⟩ := q; cases e; exact t.r
  | pab d' => cases hd; obtain ⟨b, e, _, t⟩ := q; cases e; exact t.r
  | _ => cases w
theorem dat_reg {K : PySem.W.Frag} {s : Sl} {d : D} {a x : Addr} (w : s.isW = true) (hd : s.dat = some d) (q : SlotOk K H U s (some (.ref a))) (h : d.reg a x) : s.reg (some (.ref a)) x := by
  refine ⟨w, ?_⟩
  rcases h with e | h
  · exact .inl (by rw [e])
  · cases s with
    | own d' => cases hd; obtain ⟨b, e, _, t⟩ := q; rw [t.nob] at h; cases h
    | par d' => cases hd; obtain ⟨b, e, _, t⟩ := q; rw [t.nob] at h; cases h
    | owb d' => cases hd; exact .inr h
    | pab d' => cases hd; exact .inr h
    | _ => cases w
theorem startB (R : Rel F U ρ σ H) {i : Nat} {s : Sl} {d : D} {a : Addr} (h1 : ρ[i]? = some s) (h2 : s.isW = true) (hd : s.dat = some d) (h3 : σ[i]? = some (some (.ref a))) :
    Rel (F.at U (ρ.set i (.brw d)) σ H) U (ρ.set i (.brw d)) σ H := by
  have q := R.slot i s _ h1 h3
  have t := topR_of h2 hd q
  have own' : ∀ x, Own (ρ.set i (.brw d)) σ x → Own ρ σ x ∧ ¬ s.reg (some (.ref a)) x := fun x ⟨j, t, o, q1, q2, q3⟩ => by
    rcases set_get q1 with ⟨e, rfl, _⟩ | ⟨ne, q1⟩
    · exact absurd q3 (reg_noW rfl)
    · exact ⟨⟨j, t, o, q1, q2, q3⟩, fun e => ne (R.inj i j s _ _ _ x h1 q1 h3 q2 e q3)⟩
  refine ⟨by rw [List.length_set]; exact R.len, fun j t o q1 q2 => ?_, fun j e o q1 q2 => ?_, fun j k t u o o2 b q1 q2 q3 q4 q5 q6 => ?_, R.tr, fun _ _ h _ => h, fun _ o h => ⟨o, h⟩, fun _ _ _ n => n, fun _ h _ => h, fun _ h => .inl h, fun i s l h q => ⟨⟨s, h, q⟩, rfl⟩, fun x h => R.ownU (own' x h).1, fun j e h => ?_, R.tr⟩
  · rcases set_get q1 with ⟨e, rfl, _⟩ | ⟨ne, q1⟩
    · trivial
    · exact R.slot j t o q1 q2
  · rcases set_get q1 with ⟨e1, e2, _⟩ | ⟨ne, q1⟩
    · cases e2
      subst e1
      rw [h3] at q2; cases q2
      exact .inr ⟨a, rfl, t, fun x hx z => (own' x z).2 (dat_reg h2 hd q hx)⟩
    · rcases R.bor j e o q1 q2 with z | ⟨b, e1, q, n⟩
      · exact .inl z
      · exact .inr ⟨b, e1, q, fun x hx z => n x hx (own' x z).1⟩
  · rcases set_get q1 with ⟨e, rfl, _⟩ | ⟨ne, q1⟩
    · exact absurd q5 (reg_noW rfl)
    · rcases set_get q2 with ⟨e, rfl, _⟩ | ⟨ne2, q2⟩
      · exact absurd q6 (reg_noW rfl)
      · exact R.inj j k t u o o2 b q1 q2 q3 q4 q5 q6
  · obtain ⟨sj, q1, q2⟩ := h
    rcases set_get q1 with ⟨e1, e2, _⟩ | ⟨ne, q1⟩
    · subst e1; subst e2; cases q2
      exact .inr ⟨a, h3, t.some⟩
    · exact R.b0' ⟨sj, q1, q2⟩
theorem unB (R : Rel F U ρ σ H) {i : Nat} {s : Sl} {d : D} {a : Addr} (h1 : ρ[i]? = some s) (h2 : s.isW = true) (hd : s.dat = some d) (h3 : σ[i]? = some (some (.ref a)))
    (R2 : Rel (F.at U (ρ.set i (.brw d)) σ H) U2 ρ2 σ2 H2) {d' : D} (h4 : ρ2[i]? = some (.brw d')) : Rel F U2 (ρ2.set i s) σ2 H2 := by
  have hi : i < ρ2.length := (List.getElem?_eq_some_iff.mp h4).1
  have q := R.slot i s _ h1 h3
  have nW : ∀ x, s.reg (some (.ref a)) x → ¬ Own (ρ.set i (.brw d)) σ x := fun x hx ⟨j, t, o, q1, q2, q3⟩ => by
    rcases set_get q1 with ⟨e, rfl, _⟩ | ⟨ne, q1⟩
    · exact absurd q3 (reg_noW rfl)
    · exact ne (R.inj i j s _ _ _ x h1 q1 h3 q2 hx q3)
  have hu : ∀ x, s.reg (some (.ref a)) x → U x := fun x hx => q.regU hx
  obtain ⟨⟨s', hs', ls'⟩, el⟩ := R2.lock i _ _ h4 rfl
  have e3 : σ2[i]? = some (some (.ref a)) := el.trans h3
  have kp : ∀ x, s.reg (some (.ref a)) x → ∀ o, H x = some o → H2 x = some o := fun x hx o h => R2.keep x o h (nW x hx)
  have nO : ∀ x, s.reg (some (.ref a)) x → ¬ Own ρ2 σ2 x := fun x hx z => by
    rcases R2.new x z with w | w
    · exact nW x hx w
    · obtain ⟨o, h⟩ := R.tr x (hu x hx)
      have w : H x = none := w
      rw [w] at h; cases h
  have own' : ∀ x, Own (ρ2.set i s) σ2 x → Own ρ2 σ2 x ∨ s.reg (some (.ref a)) x := fun x ⟨j, t, o, q1, q2, q3⟩ => by
    rcases set_get q1 with ⟨e, rfl, _⟩ | ⟨ne, q1⟩
    · subst e; rw [e3] at q2; cases q2; exact .inr q3
    · exact .inl ⟨j, t, o, q1, q2, q3⟩
  have oldOwn : ∀ {x j t o}, i ≠ j → ρ[j]? = some t → σ[j]? = some o → t.reg o x → Own ρ σ x := fun {x j t o} _ q1 q2 q3 => ⟨j, t, o, q1, q2, q3⟩
  have wOwn : ∀ x, Own (ρ.set i (.brw d)) σ x → Own ρ σ x := fun x ⟨j, t, o, q1, q2, q3⟩ => by
    rcases set_get q1 with ⟨e, rfl, _⟩ | ⟨ne, q1⟩
    · exact absurd q3 (reg_noW rfl)
    · exact ⟨j, t, o, q1, q2, q3⟩
  have oN : ∀ x, Own ρ2 σ2 x → F.W0 x ∨ F.H0 x = none := fun x z => by
    rcases R2.new x z with w | w
    · exact R.new x (wOwn x w)
    · refine .inr ?_
      cases e : F.H0 x with
      | none => rfl
      | some o =>
        obtain ⟨o', h'⟩ := R.ktr x o e
        have w : H x = none := w
        rw [w] at h'; cases h'
  refine ⟨by rw [List.length_set]; exact R2.len, fun j t o q1 q2 => ?_, fun j e o q1 q2 => ?_, fun j k t u o o2 b q1 q2 q3 q4 q5 q6 => ?_, R2.tr, fun b o h n => ?_, fun b o h => ?_, fun b o h n => ?_, fun b h n => R2.up b (R.up b h n) fun w => n (R.own0 (wOwn b w) h), fun x q => ?_, fun j t l q1 q2 => ?_, R.wu, R.b0, R.u0⟩
  · rcases set_get q1 with ⟨e, e2, _⟩ | ⟨ne, q1⟩
    · subst e; subst e2
      rw [e3] at q2; cases q2
      exact q.pres R2.pres0 fun x hx u => ⟨R2.up x u (nW x hx), kp x hx⟩
    · exact R2.slot j t o q1 q2
  · rcases set_get q1 with ⟨e1, e2, _⟩ | ⟨ne, q1⟩
    · rw [← e2] at h2; cases h2
    · rcases R2.bor j e o q1 q2 with z | ⟨b, e1, q', n⟩
      · exact .inl z
      · by_cases eb : ∃ x, e.reg b x ∧ s.reg (some (.ref a)) x
        · subst e1
          obtain ⟨⟨sj, hsj, lsj⟩, ej⟩ := R2.lock j _ _ q1 rfl
          have ej : σ2[j]? = σ[j]? := ej
          rw [List.getElem?_set_ne ne] at hsj
          have q2' : σ[j]? = some (some (.ref b)) := ej.symm.trans q2
          cases sj with
          | brw dj =>
            cases lsj
            rcases R.bor j e _ hsj q2' with ⟨v, ev, rv⟩ | ⟨c, ec, _, nc⟩
            · cases ev
              exact .inl ⟨_, rfl, Rp.pres R2.pres0 e _ rv⟩
            · cases ec
              obtain ⟨x, hx1, hx2⟩ := eb
              exact absurd ⟨i, s, _, h1, h3, hx2⟩ (nc x hx1)
          | _ => cases lsj
        · exact .inr ⟨b, e1, q', fun x hx z => (own' x z).elim (n x hx) fun w => eb ⟨x, hx, w⟩⟩
  · rcases set_get q1 with ⟨e, e2, _⟩ | ⟨ne, q1'⟩
    · rcases set_get q2 with ⟨e', e2', _⟩ | ⟨ne2, q2'⟩
      · omega
      · subst e
        rw [e3] at q3; cases q3
        subst e2
        exact absurd ⟨k, u, o2, q2', q4, q6⟩ (nO b q5)
    · rcases set_get q2 with ⟨e', e2', _⟩ | ⟨ne2, q2'⟩
      · subst e'
        rw [e3] at q4; cases q4
        subst e2'
        exact absurd ⟨j, t, o, q1', q3, q5⟩ (nO b q6)
      · exact R2.inj j k t u o o2 b q1' q2' q3 q4 q5 q6
  · exact R2.keep b o (R.keep b o h n) fun w => by
      rcases R.new b (wOwn b w) with z | z
      · exact n z
      · rw [z] at h; cases h
  · obtain ⟨o', h'⟩ := R.ktr b o h
    exact R2.ktr b o' h'
  · obtain ⟨o', h'⟩ := R.ktr b o h
    exact R2.shar b o' h' (R.shar b o h n)
  · rcases own' x q with z | z
    · exact oN x z
    · exact R.new x ⟨i, s, _, h1, h3, z⟩
  · rcases set_get q1 with ⟨e, e2, _⟩ | ⟨ne, q1⟩
    · subst e; subst e2
      obtain ⟨z1, z2⟩ := R.lock i t l h1 q2
      exact ⟨z1, e3.trans (h3.symm.trans z2)⟩
    · obtain ⟨⟨s', h', l'⟩, e⟩ := R2.lock j t l q1 q2
      rw [List.getElem?_set_ne ne] at h'
      obtain ⟨z1, z2⟩ := R.lock j s' l h' l'
      exact ⟨z1, e.trans z2⟩
theorem lockI_w {ρ : En} {i : Nat} {s : Sl} {d : D} (h : ρ[i]? = some s) (w : s.isW = true) (hd : s.dat = some d) : lockI ρ i = ρ.set i (.brw d) := by
  cases s <;> first | (cases w; done) | (cases hd; simp [lockI, h])
theorem lockI_no {ρ : En} {i : Nat} (h : ∀ s, ρ[i]? = some s → s.isW = false) : lockI ρ i = ρ := by
  unfold lockI
  cases e : ρ[i]? with
  | none => simp
  | some s => have := h s e; cases s <;> first | (cases this; done) | simp
theorem unlockI_w {ρ ρ2 : En} {i : Nat} {s : Sl} (h : ρ[i]? = some s) (w : s.isW = true) : unlockI ρ i ρ2 = ρ2.set i s := by
  cases s <;> first | (cases w; done) | simp [unlockI, h]
theorem unlockI_no {ρ ρ2 : En} {i : Nat} (h : ∀ s, ρ[i]? = some s → s.isW = false) : unlockI ρ i ρ2 = ρ2 := by
  unfold unlockI
  cases e : ρ[i]? with
  | none => simp
  | some s => have := h s e; cases s <;> first | (cases this; done) | simp
/-- a slot is written or not -/
theorem Rel.wOr (R : Rel F U ρ σ H) (i : Nat) : (∀ s, ρ[i]? = some s → s.isW = false) ∨ ∃ s d a, ρ[i]? = some s ∧ s.isW = true ∧ s.dat = some d ∧ σ[i]? = some (some (.ref a)) := by
  cases h : ρ[i]? with
  | none => exact .inl fun s e => nomatch e
  | some s =>
    cases w : s.isW with
    | false => exact .inl fun s' e => by cases e; exact w
    | true =>
      have hi : i < σ.length := by rw [← R.len]; exact (List.getElem?_eq_some_iff.mp h).1
      have hσ : σ[i]? = some σ[i] := List.getElem?_eq_getElem hi
      obtain ⟨a, e, _⟩ := (R.slot i s _ h hσ).ref w
      obtain ⟨d, hd⟩ : ∃ d, s.dat = some d := by cases s <;> first | (cases w; done) | exact ⟨_, rfl⟩
      exact .inr ⟨s, d, a, rfl, w, hd, hσ.trans (by rw [e])⟩
theorem loopInI (R : Rel F U ρ σ H) (i : Nat) : Rel (F.at U (lockI ρ i) σ H) U (lockI ρ i) σ H := by
  rcases R.wOr i with h | ⟨s, d, a, h1, w, hd, h3⟩
  · rw [lockI_no h]; exact R.start
  · rw [lockI_w h1 w hd]; exact startB R h1 w hd h3
theorem loopOutI (R : Rel F U ρ σ H) (i : Nat) (R2 : Rel (F.at U (lockI ρ i) σ H) U2 ρ2 σ2 H2) (ok : okI ρ i ρ2) : Rel F U2 (unlockI ρ i ρ2) σ2 H2 := by
  rcases R.wOr i with h | ⟨s, d, a, h1, w, hd, h3⟩
  · rw [lockI_no h] at R2; rw [unlockI_no h]; exact R.unbase R2
  · rw [lockI_w h1 w hd] at R2
    rw [unlockI_w h1 w]
    have ok : isB ρ2 i := by
      unfold okI at ok
      rw [h1] at ok
      have ok : (match s.isW with | true => isB ρ2 i | false => True) := ok
      rwa [w] at ok
    unfold isB at ok
    cases h4 : ρ2[i]? with
    | none => rw [h4] at ok; exact ok.elim
    | some t =>
      rw [h4] at ok
      cases t <;> first | exact ok.elim | exact unB R h1 w hd h3 R2 h4
/-- a loop begins: the frame that it sees -/
theorem loopIn (R : Rel F U ρ σ H) (r : Rs) : Rel (F.at U (lockE ρ r) σ H) U (lockE ρ r) σ H := by
  cases r with
  | val d => exact R.start
  | sl i => exact loopInI R i
  | bx i f b => exact loopInI R i
theorem loopOut (R : Rel F U ρ σ H) (r : Rs) (R2 : Rel (F.at U (lockE ρ r) σ H) U2 ρ2 σ2 H2) (ok : okL ρ r ρ2) : Rel F U2 (unlockE ρ r ρ2) σ2 H2 := by
  cases r with
  | val d => exact R.unbase R2
  | sl i => exact loopOutI R i R2 ok
  | bx i f b => exact loopOutI R i R2 ok
end
end L3

set_option Elab.async false
set_option linter.all false
set_option maxRecDepth 100000
namespace L3
open PySem L2
open PyProof.Rows (b2i)

/-! ### statements -/
structure E3 where
  nx : En → Prop
  rt : D → En → Prop
  ro : D → En → Prop
  bk : En → Prop := fun _ => False
  ct : En → Prop := fun _ => False
abbrev T3S := E3 → En → Prop
structure KS (F : Fr) (D3 : E3) (D2 : Ends) : Prop where
  nx : ∀ U ρ σ H, Rel F U ρ σ H → D3.nx ρ → D2.nx σ H
  bk : ∀ U ρ σ H, Rel F U ρ σ H → D3.bk ρ → D2.bk σ H
  ct : ∀ U ρ σ H, Rel F U ρ σ H → D3.ct ρ → D2.ct σ H
  rt : ∀ U ρ σ H d v, Rel F U ρ σ H → Rp F.K H U d v → D3.rt d ρ → D2.rt v H
  ro : ∀ U ρ σ H d a (i : Nat), Rel F U ρ σ H → ρ[i]? = some (.own d) → σ[i]? = some (some (.ref a)) → D3.ro d ρ → D2.rt (.ref a) H
  rf : ∀ U ρ σ H d a, Rel F U ρ σ H → Fresh F U H d a → D3.ro d ρ → D2.rt (.ref a) H
def SimS (K : PySem.W.Frag) (t2 : TS) (t3 : T3S) : Prop :=
  ∀ (F : Fr) (U : US) (ρ : En) (σ : St) (H : Hp) (D3 : E3) (D2 : Ends), F.K = K → Rel F U ρ σ H → t3 D3 ρ → KS F D3 D2 → t2 D2 σ H
/-- a fresh result -/
def SimEO (K : PySem.W.Frag) (t2 : TE) (t3 : En → (D → En → Prop) → Prop) : Prop :=
  ∀ (F : Fr) (U : US) (ρ : En) (σ : St) (H : Hp) (Q3 : D → En → Prop) (Q2 : VK), F.K = K → Rel F U ρ σ H → t3 ρ Q3 →
    (∀ d a ρ' H', Rel F (fun b => U b ∨ b = a) ρ' σ H' → Stp ρ σ H ρ' H' → H a = none → TopW F.K H' (fun b => U b ∨ b = a) d a → Q3 d ρ' → Q2 (.ref a) H') → t2 σ H Q2

section
variable {F : Fr} {U U2 : US} {ρ ρ' ρ2 : En} {σ σ2 : St} {H H' H2 : Hp} {K : PySem.W.Frag}
def sNext : T3S := fun D ρ => D.nx ρ
def sSeq (f g : T3S) : T3S := fun D ρ => f { D with nx := g D } ρ
theorem simNext : SimS K tNext sNext := fun F U ρ σ H D3 D2 e R q k => k.nx U ρ σ H R q
theorem simSeq {t u : TS} {f g : T3S} (h : SimS K t f) (h' : SimS K u g) : SimS K (tSeq t u) (sSeq f g) := fun F U ρ σ H D3 D2 e R q k =>
  h F U ρ σ H { D3 with nx := g D3 } { D2 with nx := u D2 } e R q ⟨fun U ρ σ H R q => h' F U ρ σ H D3 D2 e R q k, k.bk, k.ct, k.rt, k.ro, k.rf⟩
def sBreak : T3S := fun D ρ => D.bk ρ
def sCont : T3S := fun D ρ => D.ct ρ
theorem simBreak : SimS K tBreak sBreak := fun F U ρ σ H D3 D2 e R q k => k.bk U ρ σ H R q
theorem simCont : SimS K tCont sCont := fun F U ρ σ H D3 D2 e R q k => k.ct U ρ σ H R q
def sNever : T3S := fun _ _ => False
theorem simNever : SimS K tNever sNever := fun F U ρ σ H D3 D2 e R q k => q.elim
def sDrop (f : T3E) : T3S := fun D ρ => f ρ fun _ ρ1 => D.nx ρ1
theorem simDrop {t : TE} {f : T3E} (h : SimE K t f) : SimS K (tDrop t) (sDrop f) := fun F U ρ σ H D3 D2 e R q k =>
  h F U ρ σ H _ _ e R q fun r v ρ1 H1 R1 s1 q1 h1 => k.nx U ρ1 σ H1 R1 h1
def sRet (f : T3E) : T3S := fun D ρ => f ρ fun r ρ1 => match r with
  | .val d => D.rt d ρ1
  | .bx _ _ _ => False
  | .sl i => match ρ1[i]? with
    | some (.own d) => D.ro d ρ1
    | _ => False
theorem simRet {t : TE} {f : T3E} (h : SimE K t f) : SimS K (tRet t) (sRet f) := fun F U ρ σ H D3 D2 e R q k =>
  h F U ρ σ H _ _ e R q fun r v ρ1 H1 R1 s1 q1 h1 => by
    cases r with
    | val d => exact k.rt U ρ1 σ H1 d v R1 q1 h1
    | bx i f b => exact h1.elim
    | sl i =>
      have h1 : (match ρ1[i]? with | some (.own d) => D3.ro d ρ1 | _ => False) := h1
      cases hs : ρ1[i]? with
      | none => rw [hs] at h1; exact h1.elim
      | some s =>
        rw [hs] at h1
        cases s with
        | own d =>
          have q1 : σ[i]? = some (some v) := q1
          obtain ⟨a, ea, _⟩ := R1.slot i _ _ hs q1
          cases ea
          exact k.ro U ρ1 σ H1 d a i R1 hs q1 h1
        | _ => exact h1.elim
def sRetO (f : En → (D → En → Prop) → Prop) : T3S := fun D ρ => f ρ fun d ρ1 => D.ro d ρ1
theorem up_new (R : Rel F U ρ σ H) {a : Addr} (h : H a = none) : F.H0 a = none := by
  cases e : F.H0 a with
  | none => rfl
  | some o =>
    obtain ⟨o', h'⟩ := R.ktr a o e
    rw [h] at h'; cases h'
theorem simRetO {t : TE} {f : En → (D → En → Prop) → Prop} (h : SimEO K t f) : SimS K (tRet t) (sRetO f) := fun F U ρ σ H D3 D2 e R q k =>
  h F U ρ σ H _ _ e R q fun d a ρ1 H1 R1 s1 hn t1 h1 => k.rf _ ρ1 σ H1 d a R1 ⟨t1, .inr rfl, up_new R hn⟩ h1
def sRetN : T3S := fun D ρ => D.rt .non ρ
theorem simRetN : SimS K tRetN sRetN := fun F U ρ σ H D3 D2 e R q k => k.rt U ρ σ H .non .non R rp_non q
def sIf (c : T3T) (f g : T3S) : T3S := fun D ρ => c ρ fun b ρ1 => if b = true then f D ρ1 else g D ρ1
theorem simIfS {c : TT} {t u : TS} {c3 : T3T} {f g : T3S} (hc : SimT K c c3) (h : SimS K t f) (h' : SimS K u g) : SimS K (tIfS c t u) (sIf c3 f g) := fun F U ρ σ H D3 D2 e R q k =>
  hc F U ρ σ H _ _ e R q fun b ρ1 H1 R1 s1 h1 => by
    cases b with
    | true => exact h F U ρ1 σ H1 D3 D2 e R1 h1 k
    | false => exact h' F U ρ1 σ H1 D3 D2 e R1 h1 k

/-! ### targets -/
def RpW (K : PySem.W.Frag) (H : Hp) (U : US) (wk : Bool) (d : D) (x : V) : Prop :=
  Rp K H U d x ∨ (wk = true ∧ ∃ T vs ds, x = .ref T ∧ d = .tup ds ∧ SqT K H T vs ∧ RpAll K H U ds vs)
abbrev T3G := D → En → (En → Prop) → Prop
def SimG (K : PySem.W.Frag) (wk : Bool) (g2 : TG) (g3 : T3G) (ix : List Nat) : Prop :=
  ∀ (F : Fr) (U : US) (ρ : En) (σ : St) (H : Hp) (x : D) (v : V) (Q3 : En → Prop) (Q2 : St → Hp → Prop), F.K = K → Rel F U ρ σ H → RpW F.K H U wk x v → g3 x ρ Q3 →
    (∀ ρ' σ', Rel F U ρ' σ' H → (∀ a, Own ρ' σ' a → Own ρ σ a) → (∀ vs : List Nat, (∀ i ∈ ix, i ∈ vs) → wipe σ' vs = wipe σ vs) → Q3 ρ' → Q2 σ' H) → g2 v σ H Q2
def SimGs (K : PySem.W.Frag) (g2 : TGs) (g3 : List D → En → (En → Prop) → Prop) (ix : List Nat) : Prop :=
  ∀ (F : Fr) (U : US) (ρ : En) (σ : St) (H : Hp) (xs : List D) (vs : List V) (Q3 : En → Prop) (Q2 : St → Hp → Prop), F.K = K → Rel F U ρ σ H → RpAll F.K H U xs vs → g3 xs ρ Q3 →
    (∀ ρ' σ', Rel F U ρ' σ' H → (∀ a, Own ρ' σ' a → Own ρ σ a) → (∀ vs : List Nat, (∀ i ∈ ix, i ∈ vs) → wipe σ' vs = wipe σ vs) → Q3 ρ' → Q2 σ' H) → g2 vs σ H Q2
theorem wipe_get (σ : St) : ∀ (vs : List Nat) (j : Nat), (wipe σ vs)[j]? = if j ∈ vs then (σ[j]?).map (fun _ => none) else σ[j]?
  | [], j => by simp [wipe]
  | v :: vs, j => by
    unfold wipe
    by_cases e : v = j
    · subst e
      by_cases hl : v < σ.length
      · rw [List.getElem?_set_self (by rw [wipe_length]; exact hl)]
        simp [List.getElem?_eq_getElem hl]
      · rw [List.getElem?_eq_none (by rw [List.length_set, wipe_length]; omega)]
        simp [List.getElem?_eq_none (Nat.le_of_not_lt hl)]
    · rw [List.getElem?_set_ne e, wipe_get σ vs j]
      have : (j ∈ v :: vs) = (j ∈ vs) := by simp [Ne.symm e]
      simp only [this]
theorem wipe_set {σ : St} {i : Nat} {x : Option V} {vs : List Nat} (h : i ∈ vs) : wipe (σ.set i x) vs = wipe σ vs := by
  apply List.ext_getElem?
  intro j
  rw [wipe_get, wipe_get]
  by_cases e : i = j
  · subst e
    rw [if_pos h, if_pos h]
    by_cases hl : i < σ.length
    · rw [List.getElem?_set_self hl, List.getElem?_eq_getElem hl]; rfl
    · rw [List.getElem?_eq_none (by rw [List.length_set]; omega), List.getElem?_eq_none (by omega)]
  · rw [List.getElem?_set_ne e]
def unl (ρ : En) (i : Nat) : Bool := match ρ[i]? with
  | some s => !s.locked
  | none => false
theorem unl_out {i : Nat} (h : unl ρ i = true) : ∃ s, ρ[i]? = some s ∧ s.locked = false := by
  unfold unl at h
  cases e : ρ[i]? with
  | none => rw [e] at h; cases h
  | some s => rw [e] at h; exact ⟨s, rfl, by simpa using h⟩
def gN (i : Nat) : T3G := fun d ρ Q => unl ρ i = true ∧ Q (ρ.set i (.shr d))
theorem Own_setNo {i : Nat} {s' : Sl} {v : Option V} {a : Addr} (w : s'.isW = false) (h : Own (ρ.set i s') (σ.set i v) a) : Own ρ σ a := by
  obtain ⟨j, t, o, q1, q2, q3⟩ := h
  rcases set_get q1 with ⟨e, rfl, _⟩ | ⟨ne, q1⟩
  · exact absurd q3 (reg_noW w)
  · rw [List.getElem?_set_ne ne] at q2
    exact ⟨j, t, o, q1, q2, q3⟩
theorem Own_setShr {i : Nat} {d : D} {v : Option V} {a : Addr} (h : Own (ρ.set i (.shr d)) (σ.set i v) a) : Own ρ σ a := Own_setNo rfl h
theorem simGN (i : Nat) : SimG K false (gName i) (gN i) [i] := by
  intro F U ρ σ H x v Q3 Q2 e R r q k
  have r : Rp F.K H U x v := r.elim id fun z => nomatch z.1
  obtain ⟨s, h1, h2⟩ := unl_out q.1
  exact k _ _ (R.setShr h1 h2 r) (fun a h => Own_setShr h) (fun vs h => wipe_set (h i (by simp))) q.2
theorem simGNil : SimGs K gNil (fun xs ρ Q => xs = [] ∧ Q ρ) [] := by
  intro F U ρ σ H xs vs Q3 Q2 e R r q k
  obtain ⟨rfl, q⟩ := q
  simp only [RpAll] at r
  exact ⟨r, k ρ σ R (fun _ h => h) (fun _ _ => rfl) q⟩
theorem simGCons {t : TG} {u : TGs} {f : T3G} {g : List D → En → (En → Prop) → Prop} {is js : List Nat} (h : SimG K false t f is) (h' : SimGs K u g js) :
    SimGs K (gCons t u) (fun xs ρ Q => match xs with | x :: r => f x ρ fun ρ1 => g r ρ1 Q | [] => False) (is ++ js) := by
  intro F U ρ σ H xs vs Q3 Q2 e R r q k
  cases xs with
  | nil => exact q.elim
  | cons x xs =>
    simp only [RpAll] at r
    obtain ⟨v, w, rfl, r1, r2⟩ := r
    refine ⟨v, w, rfl, h F U ρ σ H x v _ _ e R (.inl r1) q fun ρ1 σ1 R1 o1 w1 q1 => ?_⟩
    exact h' F U ρ1 σ1 H xs w _ _ e R1 r2 q1 fun ρ2 σ2 R2 o2 w2 q2 => k ρ2 σ2 R2 (fun a z => o1 a (o2 a z))
      (fun vs hv => (w2 vs fun i hi => hv i (List.mem_append_right _ hi)).trans (w1 vs fun i hi => hv i (List.mem_append_left _ hi))) q2
def gT (n : Nat) (g : List D → En → (En → Prop) → Prop) : T3G := fun d ρ Q => match d with
  | .tup ds => ds.length = n ∧ g ds ρ Q
  | _ => False
theorem simGT {wk : Bool} {n : Nat} {t : TGs} {g : List D → En → (En → Prop) → Prop} {is : List Nat} (h : SimGs K t g is) : SimG K wk (gTup K n t) (gT n g) is := by
  intro F U ρ σ H x v Q3 Q2 e R r q k
  subst e
  cases x <;> first | exact q.elim | skip
  rename_i ds
  obtain ⟨q1, q2⟩ := q
  have : ∃ a vs, v = .ref a ∧ SqT F.K H a vs ∧ RpAll F.K H U ds vs := by
    rcases r with r | ⟨_, T, vs, es, rfl, he, h1, h2⟩
    · simp only [Rp] at r
      obtain ⟨a, vs, rfl, h1, h2⟩ := r
      exact ⟨a, vs, rfl, h1.sq, h2⟩
    · cases he
      exact ⟨T, vs, rfl, h1, h2⟩
  obtain ⟨a, vs, rfl, h1, h2⟩ := this
  exact ⟨a, vs, rfl, h1, by rw [h2.len]; exact q1, h F U ρ σ H ds vs _ _ rfl R h2 q2 k⟩

/-! ### assignments -/
/-- to a target: a shared value; y = x of an owned x moves it -/
def sAsg (f : T3E) (g : T3G) : T3S := fun D ρ => f ρ fun r ρ1 => match r with
  | .val d => g d ρ1 D.nx
  | _ => False
theorem simAsg {t : TE} {f : T3E} {g : TG} {g3 : T3G} {is : List Nat} (h : SimE K t f) (hg : SimG K false g g3 is) : SimS K (tAsg t g) (sAsg f g3) := fun F U ρ σ H D3 D2 e R q k =>
  h F U ρ σ H _ _ e R q fun r v ρ1 H1 R1 s1 q1 h1 => by
    cases r with
    | sl i => exact h1.elim
    | bx _ _ _ => exact h1.elim
    | val d => exact hg F U ρ1 σ H1 d v _ _ e R1 (.inl q1) h1 fun ρ2 σ2 R2 _ _ q2 => k.nx U ρ2 σ2 H1 R2 q2
/-- a lent slot that shields an address which is new has shared data -/
theorem Rel.brwNew {U1 : US} {ρ1 : En} {H1 : Hp} (R1 : Rel F U1 ρ1 σ2 H1) (R : Rel F U ρ σ H) {a : Addr} (hn : H a = none) {j : Nat} {e : D} (q1 : ρ1[j]? = some (.brw e)) {b : Addr} (q2 : σ2[j]? = some (some (.ref b))) (hb : e.reg b a) : Rp F.K H1 U1 e (.ref b) := by
  rcases R1.bor j e _ q1 q2 with ⟨v, ev, r⟩ | ⟨b', eb, tb, nb⟩
  · cases ev; exact r
  · cases eb
    obtain ⟨l1, l2⟩ := R1.lock j _ _ q1 rfl
    rcases R.b0 j e l1 with ⟨v, ev, r⟩ | ⟨b', eb, ho⟩
    · rw [← l2, q2] at ev; cases ev
      exact Rp.pres R1.pres0 e _ r
    · rw [← l2, q2] at eb; cases eb
      exfalso
      obtain ⟨o, ho⟩ := ho a hb
      obtain ⟨o', h'⟩ := R.ktr a o ho
      rw [hn] at h'; cases h'
/-- x = a new object, x owned -/
def sAsgO (f : En → (D → En → Prop) → Prop) (i : Nat) : T3S := fun D ρ => f ρ fun d ρ1 => unl ρ1 i = true ∧ D.nx (ρ1.set i (.own d))
theorem simAsgO {t : TE} {f : En → (D → En → Prop) → Prop} (h : SimEO K t f) (i : Nat) : SimS K (tAsg t (gName i)) (sAsgO f i) := fun F U ρ σ H D3 D2 e R q k =>
  h F U ρ σ H _ _ e R q fun d a ρ1 H1 R1 s1 hn t1 h1 => by
    obtain ⟨s, z1, z2⟩ := unl_out h1.1
    have no : ¬ Own ρ1 σ a := fun z => by
      have := R.ownU (s1.own a z)
      obtain ⟨o, ho⟩ := R.tr a this
      rw [hn] at ho; cases ho
    refine k.nx _ _ _ H1 (R1.setOwn z1 z2 ⟨t1, .inr rfl, up_new R hn⟩ no fun j e' q1 b q2 hb => R1.brwNew R hn q1 q2 hb) h1.2
end
end L3

set_option Elab.async false
set_option linter.all false
set_option maxRecDepth 100000
namespace L3
open PySem PySem.Spec L2
open PyProof.Rows (b2i)

/-! ### what is walked -/
section
variable {X : Cx} {tg : Expr}
def iSeq (K : PySem.W.Frag) (tl : TE) : TI := fun σ H R => tl σ H fun x H1 => ∃ a, x = .ref a ∧ (((∃ xs, SqL K H1 a xs) ∧ R (Itl K a) H1) ∨ ((∃ xs, SqT K H1 a xs) ∧ R (Itt K a) H1))
theorem pi_seq {l : Expr} {tl : TE} (hl : PE X l tl) : PI X tg l (iSeq X.K tl) := by
  refine ⟨fun pins s σ H R I h => ?_⟩
  refine thn (hl.run pins s σ H _ I h) fun v s1 ⟨x, H1, I1, r1, q1⟩ => ?_
  obtain ⟨a, e, q1⟩ := q1
  subst e
  cases r1
  rcases q1 with ⟨⟨xs, hq⟩, q⟩ | ⟨⟨xs, hq⟩, q⟩
  · obtain ⟨its, rv, p, hz⟩ := I1.list hq
    refine wpAny_pyIter_list p.isList ?_
    refine ⟨s1.heap.objs.size, [s1.heap.objs.size], _, _, H1, rfl, I1.kept (t' := s1.toks) fun b o e => Heap.get?_push_of_some _ e, turn_list a _, ⟨_, Heap.get?_push_size _ rfl, rfl, rfl⟩, fun b hb => ?_, q⟩
    have e : b = s1.heap.objs.size := by simpa using hb
    subst e
    exact I1.fpOk (Nat.le_refl _) (I1.hok.fresh (Nat.le_refl _))
  · obtain ⟨its, rv, p, hz⟩ := I1.tuple hq
    refine wpAny_pyIter_tuple (show s1.heap.IsTuple a its.toArray from p) ?_
    refine ⟨s1.heap.objs.size, [s1.heap.objs.size], _, _, H1, rfl, I1.kept (t' := s1.toks) fun b o e => Heap.get?_push_of_some _ e, turn_tuple a _, ⟨_, Heap.get?_push_size _ rfl, rfl, rfl⟩, fun b hb => ?_, q⟩
    have e : b = s1.heap.objs.size := by simpa using hb
    subst e
    exact I1.fpOk (Nat.le_refl _) (I1.hok.fresh (Nat.le_refl _))
end

structure It3 where
  items : List D
  r : Rs
abbrev T3I := En → (It3 → En → Prop) → Prop
def JOk (K : PySem.W.Frag) (U : US) (H : Hp) (W : US) (wk : Bool) (J : It) (items : List D) : Prop :=
  ∀ (F2 : Fr) (U2 : US) (ρ2 : En) (σ2 : St) (H2 : Hp), F2.K = K → Rel F2 U2 ρ2 σ2 H2 → Pres H U H2 U2 → (∀ a o, H a = some o → ¬ W a → H2 a = some o) → ∀ i : Nat,
    (∀ d, items[i]? = some d → J.go i H2 ∧ ∀ x H3, J.yld i H2 x H3 → (∀ a o, H2 a = some o → H3 a = some o) ∧ RpW K H3 U2 wk d x) ∧ (items.length ≤ i → J.stop i H2)
def SimI (K : PySem.W.Frag) (wk : Bool) (w2 : TI) (w3 : T3I) : Prop :=
  ∀ (F : Fr) (U : US) (ρ : En) (σ : St) (H : Hp) (Q3 : It3 → En → Prop) (R2 : It → Hp → Prop), F.K = K → Rel F U ρ σ H → w3 ρ Q3 →
    (∀ J it ρ' H', Rel F U ρ' σ H' → Stp ρ σ H ρ' H' → JOk K U H' (Own (lockE ρ' it.r) σ) wk J it.items → Q3 it ρ' → R2 J H') → w2 σ H R2
section
variable {F : Fr} {U U2 : US} {ρ ρ' ρ2 : En} {σ σ2 : St} {H H' H2 : Hp} {K : PySem.W.Frag}
theorem Own_lockI {i : Nat} {a : Addr} (h : Own (lockI ρ i) σ a) : Own ρ σ a := by
  by_cases w : ∃ s, ρ[i]? = some s ∧ s.isW = true
  · obtain ⟨s, h1, w⟩ := w
    obtain ⟨d, hd⟩ : ∃ d, s.dat = some d := by cases s <;> first | (cases w; done) | exact ⟨_, rfl⟩
    rw [lockI_w h1 w hd] at h
    obtain ⟨j, t, o, q1, q2, q3⟩ := h
    rcases set_get q1 with ⟨_, rfl, _⟩ | ⟨_, q1⟩
    · exact absurd q3 (reg_noW rfl)
    · exact ⟨j, t, o, q1, q2, q3⟩
  · rw [lockI_no fun s e => Bool.eq_false_iff.mpr fun z => w ⟨s, e, z⟩] at h
    exact h
theorem Own_lockE (R : Rel F U ρ σ H) {r : Rs} {a : Addr} (h : Own (lockE ρ r) σ a) : Own ρ σ a := by
  cases r with
  | val d => exact h
  | sl i => exact Own_lockI h
  | bx i f b => exact Own_lockI h
theorem lock_off (R : Rel F U ρ σ H) {i : Nat} {s : Sl} {o : Option V} {x : Addr} (h1 : ρ[i]? = some s) (h2 : σ[i]? = some o) (hx : s.reg o x) : ¬ Own (lockI ρ i) σ x := fun z => by
  have w := hx.1
  obtain ⟨d, hd⟩ : ∃ d, s.dat = some d := by cases s <;> first | (cases w; done) | exact ⟨_, rfl⟩
  rw [lockI_w h1 w hd] at z
  obtain ⟨j, t, o', q1, q2, q3⟩ := z
  rcases set_get q1 with ⟨_, rfl, _⟩ | ⟨ne, q1⟩
  · exact absurd q3 (reg_noW rfl)
  · exact ne (R.inj i j s t _ _ _ h1 q1 h2 q2 hx q3)
theorem lookup_bxs : ∀ {fs : List (Str × D)} {f : Str} {b : Addr} {d : D}, fs.lookup f = some (.bx b d) → b ∈ bxsF fs
  | [], _, _, _, e => by cases e
  | (k, d') :: fs, f, b, d, e => by
    rw [List.lookup_cons] at e
    cases hk : (f == k) with
    | true => rw [hk] at e; cases e; exact List.mem_cons_self ..
    | false =>
      rw [hk] at e
      have := lookup_bxs e
      cases d' <;> first | exact this | exact List.mem_cons_of_mem _ this
/-- what a loop holds stands -/
theorem RV.held (R : Rel F U ρ σ H) {r : Rs} {v : V} {d : D} (h : RV F U σ H r v) (e : r.dat ρ = some d) : Rp F.K H U d v ∨ ∃ a, v = .ref a ∧ TopR F.K H U d a ∧ ¬ Own (lockE ρ r) σ a := by
  cases r with
  | val d' => cases e; exact .inl h
  | bx i f b =>
    rcases h.get R e with z | ⟨a, ea, t⟩
    · exact .inl z
    · refine .inr ⟨a, ea, t, ?_⟩
      have hv : v = .ref b := h
      rw [hv] at ea; cases ea
      have e : (match boxOf ρ i f with | some (b', d) => if b' = b then some d else none | none => none) = some d := e
      cases hb : boxOf ρ i f with
      | none => rw [hb] at e; cases e
      | some p =>
        obtain ⟨b', d'⟩ := p
        rw [hb] at e
        have e : (if b' = b then some d' else none) = some d := e
        by_cases z : b' = b
        · subst z
          obtain ⟨s, C, fs, h1, h2, h3⟩ := boxOf_out hb
          have hi : i < σ.length := by rw [← R.len]; exact (List.getElem?_eq_some_iff.mp h1).1
          have hσ : σ[i]? = some σ[i] := List.getElem?_eq_getElem hi
          cases w : isBrw ρ i with
          | false =>
            obtain ⟨s', C', fs', a, g1, g2, g3, g4, g5, g6, _⟩ := (R.box hb).2 w
            exact lock_off R g1 g6 ⟨g2, .inr (by cases s' <;> first | (cases g3; done) | (cases g2; done) | (cases g4; exact lookup_bxs g5))⟩
          | true =>
            intro z
            have z := Own_lockE R z
            cases s <;> first | (simp [isBrw, h1] at w; done) | skip
            cases h2
            rcases R.bor i _ _ h1 hσ with ⟨v, _, g⟩ | ⟨a, _, _, n⟩
            · simp only [Rp] at g
              obtain ⟨a, dx, gs, _, _, _, g⟩ := g
              exact (g.noBx h3).elim
            · exact n b' (.inr (lookup_bxs h3)) z
        · rw [if_neg z] at e; cases e
  | sl i =>
    have h : σ[i]? = some (some v) := h
    have e : (match ρ[i]? with | some s => s.dat | none => none) = some d := e
    cases hs : ρ[i]? with
    | none => rw [hs] at e; cases e
    | some s =>
      rw [hs] at e
      have q := R.slot i s _ hs h
      have off : ∀ {a}, s.isW = true → v = .ref a → ¬ Own (lockE ρ (.sl i)) σ a := fun {a} hw ha => lock_off R hs h ⟨hw, .inl (by rw [ha])⟩
      cases s with
      | emp => cases e
      | shr d' => cases e; obtain ⟨v', e', q⟩ := q; cases e'; exact .inl q
      | own d' => cases e; obtain ⟨a, e', _, q⟩ := q; cases e'; exact .inr ⟨a, rfl, q.r, off rfl rfl⟩
      | par d' => cases e; obtain ⟨a, e', _, q⟩ := q; cases e'; exact .inr ⟨a, rfl, q.r, off rfl rfl⟩
      | owb d' => cases e; obtain ⟨a, e', _, q⟩ := q; cases e'; exact .inr ⟨a, rfl, q.r, off rfl rfl⟩
      | pab d' => cases e; obtain ⟨a, e', _, q⟩ := q; cases e'; exact .inr ⟨a, rfl, q.r, off rfl rfl⟩
      | brw d' =>
        cases e
        rcases R.bor i d _ hs h with ⟨v', e', q2⟩ | ⟨a, e', q2, n⟩
        · cases e'; exact .inl q2
        · cases e'; exact .inr ⟨a, rfl, q2, fun z => n a (.inl rfl) (Own_lockE R z)⟩
/-- the list of such a value, later on -/
theorem heldL (R : Rel F U ρ σ H) {r : Rs} {v : V} {ds : List D} (h : RV F U σ H r v) (e : r.dat ρ = some (.lst ds)) : ∃ a vs, v = .ref a ∧ Rd H a (.lst vs) ∧ RpAll F.K H U ds vs ∧ ∀ (H2 : Hp) (U2 : US), Pres H U H2 U2 → (∀ a o, H a = some o → ¬ Own (lockE ρ r) σ a → H2 a = some o) → Rd H2 a (.lst vs) := by
  rcases h.held R e with q | ⟨a, rfl, ⟨vs, q1, q2⟩, n⟩
  · simp only [Rp] at q
    obtain ⟨a, vs, rfl, h1, h2⟩ := q
    exact ⟨a, vs, rfl, .inl h1.1, h2, fun H2 U2 p _ => .inl (p a _ h1.1 h1.2).1⟩
  · refine ⟨a, vs, rfl, q1, q2, fun H2 U2 _ kp => ?_⟩
    rcases q1 with q1 | ⟨o, q1⟩
    · exact .inl (kp a _ q1 n)
    · exact .inr ⟨o, kp a _ q1 n⟩
def iS (f : T3E) : T3I := fun ρ Q => f ρ fun r ρ1 => wd r ρ1 fun d => match d with
  | .lst ds => Q ⟨ds, r⟩ ρ1
  | .tup ds => Q ⟨ds, r⟩ ρ1
  | .scr ns => Q ⟨ns.map D.int, .val .non⟩ ρ1
  | _ => False
theorem scr_sq {ns : List Int} {v : V} (h : Rp K H U (.scr ns) v) : ∃ a, v = .ref a ∧ SqL K H a (ns.map V.int) := by
  simp only [Rp] at h
  obtain ⟨a, e, h⟩ := h
  refine ⟨a, e, ?_⟩
  rcases h with ⟨o, its, n, h1, h2, h3, h4, h5, h6⟩ | ⟨o, h, _⟩
  · exact .inr ⟨o, its, n, h1, h2, h3, h4, h5, h6⟩
  · exact .inl (.inr ⟨o, h⟩)
theorem len_idx {α : Type} {l : List α} {i : Nat} (h : l.length ≤ i) : l[i]? = none := List.getElem?_eq_none h
theorem RdL_inj {H : Hp} {a : Addr} {vs ws : List V} (K : PySem.W.Frag) (h : Rd H a (.lst vs)) (q : Rd H a (.lst ws)) : ws = vs := by
  rcases h with h | ⟨o, h⟩ <;> rcases q with q | ⟨o', q⟩ <;> rw [h] at q <;> cases q <;> rfl
theorem simIS {t : TE} {f : T3E} (h : SimE K t f) : SimI K false (iSeq K t) (iS f) := by
  intro F U ρ σ H Q3 R2 e R q k
  refine h F U ρ σ H _ _ e R q fun r v ρ1 H1 R1 s1 q1 h1 => ?_
  subst e
  obtain ⟨d, e1, h1⟩ := wd_out h1
  cases d <;> first | exact h1.elim | skip
  · rename_i ds
    obtain ⟨a, vs, rfl, z1, z2, z3⟩ := q1.tup R1 e1
    refine ⟨a, rfl, .inr ⟨⟨vs, z1⟩, k _ ⟨ds, r⟩ ρ1 H1 R1 s1 ?_ h1⟩⟩
    intro F2 U2 ρ2 σ2 H2 eK R2' p kp i
    have z4 := Rp.pres p _ _ z3
    simp only [Rp] at z4
    obtain ⟨a', ws, ea, w1, w2⟩ := z4
    cases ea
    refine ⟨fun d hd => ?_, fun hi => ⟨ws, w1.sq, by rw [w2.len]; exact hi⟩⟩
    obtain ⟨x, hx, rx⟩ := w2.get hd
    exact ⟨⟨ws, x, w1.sq, hx⟩, fun y H3 hy => by
      obtain ⟨rfl, hy⟩ := hy
      have := hy ws w1.sq
      rw [hx] at this; cases this
      exact ⟨fun _ _ h => h, .inl rx⟩⟩
  · rename_i ds
    obtain ⟨a, vs, rfl, z1, z2, z3⟩ := heldL R1 q1 e1
    refine ⟨a, rfl, .inl ⟨⟨vs, .inl z1⟩, k _ ⟨ds, r⟩ ρ1 H1 R1 s1 ?_ h1⟩⟩
    intro F2 U2 ρ2 σ2 H2 eK R2' p kp i
    have w1 := z3 H2 U2 p kp
    have w2 := RpAll.pres p ds vs z2
    refine ⟨fun d hd => ?_, fun hi => ⟨vs, .inl w1, by rw [w2.len]; exact hi⟩⟩
    obtain ⟨x, hx, rx⟩ := w2.get hd
    exact ⟨⟨vs, x, .inl w1, hx⟩, fun y H3 hy => by
      obtain ⟨rfl, hy⟩ := hy
      have := hy vs (.inl w1)
      rw [hx] at this; cases this
      exact ⟨fun _ _ h => h, .inl rx⟩⟩
  · rename_i ns
    have z : Rp F.K H1 U (.scr ns) v := by
      rcases q1.get R1 e1 with z | ⟨a, _, z⟩
      · exact z
      · exact z.elim
    obtain ⟨a, rfl, z1⟩ := scr_sq z
    refine ⟨a, rfl, .inl ⟨⟨_, z1⟩, k _ ⟨ns.map D.int, .val .non⟩ ρ1 H1 R1 s1 ?_ h1⟩⟩
    intro F2 U2 ρ2 σ2 H2 eK R2' p kp i
    obtain ⟨a', ea, w1⟩ := scr_sq (Rp.pres p _ _ z)
    cases ea
    refine ⟨fun d hd => ?_, fun hi => ⟨_, w1, by rw [List.length_map]; simpa using hi⟩⟩
    rw [List.getElem?_map] at hd
    obtain ⟨c, hc, rfl⟩ := Option.map_eq_some_iff.mp hd
    have hx : (ns.map V.int)[i]? = some (.int c) := by rw [List.getElem?_map, hc]; rfl
    exact ⟨⟨_, _, w1, hx⟩, fun y H3 hy => by
      obtain ⟨rfl, hy⟩ := hy
      have := hy _ w1
      rw [hx] at this; cases this
      exact ⟨fun _ _ h => h, .inl rp_int⟩⟩
/-- rngD lo, lo + c, .. -/
def rngD (lo c : Int) (n : Nat) : List D := (List.range n).map fun i => D.int (lo + (i : Nat) * c)
theorem rngD_get {lo c : Int} {n i : Nat} {d : D} (h : (rngD lo c n)[i]? = some d) : i < n ∧ d = .int (lo + (i : Nat) * c) := by
  unfold rngD at h
  rw [List.getElem?_map] at h
  by_cases hi : i < n
  · rw [List.getElem?_range hi] at h
    exact ⟨hi, (Option.some.inj h).symm⟩
  · rw [List.getElem?_eq_none (by rw [List.length_range]; omega)] at h; cases h
theorem rngD_len {lo c : Int} {n : Nat} : (rngD lo c n).length = n := by simp [rngD]
theorem jok_r {lo : Int} {n : Nat} {W : US} : JOk K U H W false (Itr lo n) (rngD lo 1 n) := by
  intro F2 U2 ρ2 σ2 H2 eK R2 p kp i
  refine ⟨fun d hd => ?_, fun hi => by rw [rngD_len] at hi; exact hi⟩
  obtain ⟨hi, rfl⟩ := rngD_get hd
  exact ⟨hi, fun x H3 hy => by
    obtain ⟨rfl, rfl⟩ := hy
    refine ⟨fun _ _ h => h, .inl ?_⟩
    rw [Int.mul_one]
    exact rp_int⟩
theorem jok_c {lo c : Int} {n : Nat} {W : US} : JOk K U H W false (Itc lo c n) (rngD lo c n) := by
  intro F2 U2 ρ2 σ2 H2 eK R2 p kp i
  refine ⟨fun d hd => ?_, fun hi => by rw [rngD_len] at hi; exact hi⟩
  obtain ⟨hi, rfl⟩ := rngD_get hd
  exact ⟨hi, fun x H3 hy => by
    obtain ⟨rfl, rfl⟩ := hy
    exact ⟨fun _ _ h => h, .inl rp_int⟩⟩
def iR1 (g : T3A) : T3I := fun ρ Q => g ρ fun rs ρ1 => match rs with
  | [x] => wd x ρ1 fun d => match d with
    | .int j => (-(2 ^ 62) ≤ j ∧ j < 2 ^ 62) ∧ Q ⟨rngD 0 1 j.toNat, .val .non⟩ ρ1
    | _ => False
  | _ => False
theorem simIR1 {t : TA} {g : T3A} (h : SimA K t g) : SimI K false (iRng1 t) (iR1 g) := by
  intro F U ρ σ H Q3 R2 e R q k
  refine h F U ρ σ H _ _ e R q fun rs vs ρ1 H1 R1 s1 q1 h1 => ?_
  cases q1 with
  | nil => exact h1.elim
  | cons q1 qs =>
    cases qs with
    | cons _ _ => exact h1.elim
    | nil =>
      obtain ⟨d, e1, h1⟩ := wd_out h1
      cases d <;> first | exact h1.elim | skip
      exact ⟨_, by rw [q1.int R1 e1], h1.1.1, h1.1.2, k _ ⟨_, .val .non⟩ ρ1 H1 R1 s1 jok_r h1.2⟩
def w2A (rs : List Rs) (ρ : En) (k : Int → Int → Prop) : Prop := match rs with
  | [x, y] => w2I x y ρ k
  | _ => False
theorem w2A_out {rs : List Rs} {vs : List V} {k : Int → Int → Prop} (R : Rel F U ρ σ H) (q : RVs F U σ H rs vs) (h : w2A rs ρ k) : ∃ i j, vs = [.int i, .int j] ∧ k i j := by
  unfold w2A at h
  split at h
  · rename_i x y
    cases q with
    | cons q1 qs =>
      cases qs with
      | cons q2 qs =>
        cases qs
        obtain ⟨i, j, e1, e2, h⟩ := w2I_out h
        exact ⟨i, j, by rw [q1.int R e1, q2.int R e2], h⟩
  · exact h.elim
def iR2 (g : T3A) : T3I := fun ρ Q => g ρ fun rs ρ1 => w2A rs ρ1 fun i j => (-(2 ^ 62) ≤ i ∧ i < 2 ^ 62 ∧ -(2 ^ 62) ≤ j ∧ j < 2 ^ 62) ∧ Q ⟨rngD i 1 (j - i).toNat, .val .non⟩ ρ1
theorem simIR2 {t : TA} {g : T3A} (h : SimA K t g) : SimI K false (iRng2 t) (iR2 g) := by
  intro F U ρ σ H Q3 R2 e R q k
  refine h F U ρ σ H _ _ e R q fun rs vs ρ1 H1 R1 s1 q1 h1 => ?_
  obtain ⟨i, j, rfl, h1⟩ := w2A_out R1 q1 h1
  exact ⟨i, j, rfl, h1.1, k _ ⟨_, .val .non⟩ ρ1 H1 R1 s1 jok_r h1.2⟩
/-- range(i, j, -1) -/
def iRm (g : T3A) : T3I := fun ρ Q => g ρ fun rs ρ1 => match rs with
  | [x, y, z] => w2I x y ρ1 fun i j => wd z ρ1 fun dz => match dz with
    | .int c => c = -1 ∧ (-(2 ^ 62) ≤ i ∧ i < 2 ^ 62 ∧ -(2 ^ 62) ≤ j ∧ j < 2 ^ 62) ∧ Q ⟨rngD i (-1) (i - j).toNat, .val .non⟩ ρ1
    | _ => False
  | _ => False
theorem simIRm {t : TA} {g : T3A} (h : SimA K t g) : SimI K false (iRng3 t) (iRm g) := by
  intro F U ρ σ H Q3 R2 e R q k
  refine h F U ρ σ H _ _ e R q fun rs vs ρ1 H1 R1 s1 q1 h1 => ?_
  split at h1
  · rename_i x y z
    cases q1 with
    | cons q1 qs =>
      cases qs with
      | cons q2 qs =>
        cases qs with
        | cons q3 qs =>
          cases qs
          obtain ⟨i, j, e1, e2, h1⟩ := w2I_out h1
          obtain ⟨dz, e3, h1⟩ := wd_out h1
          cases dz <;> first | exact h1.elim | skip
          obtain ⟨rfl, ⟨b1, b2, b3, b4⟩, h1⟩ := h1
          exact ⟨i, j, -1, _, by rw [q1.int R1 e1, q2.int R1 e2, q3.int R1 e3], RgC.neg b1 b2 b3 b4, k _ ⟨_, .val .non⟩ ρ1 H1 R1 s1 jok_c h1⟩
  · exact h1.elim
/-- enumerate(a list) -/
def pairsD (ds : List D) : List D := ds.zipIdx.map fun p => D.tup [.int (p.2 : Nat), p.1]
theorem pairsD_get {ds : List D} {i : Nat} {d : D} (h : (pairsD ds)[i]? = some d) : ∃ x, ds[i]? = some x ∧ d = .tup [.int (i : Nat), x] := by
  unfold pairsD at h
  rw [List.getElem?_map, List.getElem?_zipIdx] at h
  cases e : ds[i]? with
  | none => rw [e] at h; cases h
  | some x => rw [e] at h; simp at h; exact ⟨x, rfl, h.symm⟩
theorem pairsD_len (ds : List D) : (pairsD ds).length = ds.length := by simp [pairsD]
def iE (g : T3A) : T3I := fun ρ Q => g ρ fun rs ρ1 => match rs with
  | [x] => wd x ρ1 fun d => match d with
    | .lst ds => Q ⟨pairsD ds, x⟩ ρ1
    | _ => False
  | _ => False
theorem simIE {t : TA} {g : T3A} (h : SimA K t g) : SimI K true (iEnum K t) (iE g) := by
  intro F U ρ σ H Q3 R2 e R q k
  refine h F U ρ σ H _ _ e R q fun rs vs ρ1 H1 R1 s1 q1 h1 => ?_
  subst e
  cases q1 with
  | nil => exact h1.elim
  | cons q1 qs =>
    cases qs with
    | cons _ _ => exact h1.elim
    | nil =>
      rename_i r v
      obtain ⟨d, e1, h1⟩ := wd_out h1
      cases d <;> first | exact h1.elim | skip
      rename_i ds
      obtain ⟨a, vs, rfl, z1, z2, z3⟩ := heldL R1 q1 e1
      refine ⟨a, vs, rfl, .inl z1, k _ ⟨_, r⟩ ρ1 H1 R1 s1 ?_ h1⟩
      intro F2 U2 ρ2 σ2 H2 eK R2' p kp i
      have w1 := z3 H2 U2 p kp
      have w2 := RpAll.pres p ds vs z2
      refine ⟨fun d hd => ?_, fun hi => ⟨vs, .inl w1, by rw [w2.len]; rw [pairsD_len] at hi; exact hi⟩⟩
      obtain ⟨x, hx, rfl⟩ := pairsD_get hd
      obtain ⟨y, hy, ry⟩ := w2.get hx
      refine ⟨⟨vs, y, .inl w1, hy⟩, fun z H3 hz => ?_⟩
      obtain ⟨T, y', rfl, hT, rfl, hz⟩ := hz
      have := hz vs (.inl w1)
      rw [hy] at this; cases this
      refine ⟨ext_new hT, .inr ⟨rfl, T, _, _, rfl, rfl, .inl (.inl upd_same), ?_⟩⟩
      simp only [RpAll, Rp]
      exact ⟨_, _, rfl, rfl, _, _, rfl, Rp.pres (fun a o h n => ⟨ext_new hT a o h, n⟩) x y ry, rfl⟩

/-! ### loops -/
def E3.under (E : E3) (ρ0 : En) (r : Rs) : E3 :=
  { nx := fun ρ => okL ρ0 r ρ ∧ E.nx (unlockE ρ0 r ρ), rt := fun d ρ => okL ρ0 r ρ ∧ E.rt d (unlockE ρ0 r ρ), ro := fun d ρ => okL ρ0 r ρ ∧ E.ro d (unlockE ρ0 r ρ) }
def forL (g : T3G) (tb : T3S) (E : E3) : List D → En → Prop
  | [], ρ => E.nx ρ
  | x :: xs, ρ => g x ρ fun ρ1 => tb { E with nx := forL g tb E xs, ct := forL g tb E xs, bk := E.nx } ρ1
def sFor (w : T3I) (g : T3G) (tb : T3S) : T3S := fun E ρ => w ρ fun it ρ1 => forL g tb (E.under ρ1 it.r) it.items (lockE ρ1 it.r)
theorem Pres.at (R : Rel (F.at U ρ σ H) U2 ρ2 σ2 H2) : Pres H U H2 U2 := R.pres0
theorem unlockI_own {i j : Nat} {d : D} (ok : okI ρ j ρ2) (h : ρ2[i]? = some (.own d)) : (unlockI ρ j ρ2)[i]? = some (.own d) := by
  by_cases w : ∃ s, ρ[j]? = some s ∧ s.isW = true
  · obtain ⟨s, h1, w⟩ := w
    rw [unlockI_w h1 w]
    have ok : isB ρ2 j := by
      unfold okI at ok
      rw [h1] at ok
      have ok : (match s.isW with | true => isB ρ2 j | false => True) := ok
      rwa [w] at ok
    have ne : j ≠ i := fun z => by subst z; unfold isB at ok; rw [h] at ok; exact ok
    rw [List.getElem?_set_ne ne]; exact h
  · rw [unlockI_no fun s e => Bool.eq_false_iff.mpr fun z => w ⟨s, e, z⟩]
    exact h
theorem unlock_own {r : Rs} {i : Nat} {d : D} (ok : okL ρ r ρ2) (h : ρ2[i]? = some (.own d)) : (unlockE ρ r ρ2)[i]? = some (.own d) := by
  cases r with
  | val _ => exact h
  | sl j => exact unlockI_own ok h
  | bx j f b => exact unlockI_own ok h
theorem KS.under {D3 : E3} {D2 : Ends} (k : KS F D3 D2) (R : Rel F U ρ σ H) (r : Rs) : KS (F.at U (lockE ρ r) σ H) (D3.under ρ r) { D2 with bk := fun _ _ => False, ct := fun _ _ => False } where
  nx := fun U' ρ' σ' H' R' q => k.nx _ _ _ _ (loopOut R r R' q.1) q.2
  bk := fun _ _ _ _ _ q => q
  ct := fun _ _ _ _ _ q => q
  rt := fun U' ρ' σ' H' d v R' rp q => k.rt _ _ _ _ d v (loopOut R r R' q.1) rp q.2
  ro := fun U' ρ' σ' H' d a i R' h1 h2 q => k.ro _ _ _ _ d a i (loopOut R r R' q.1) (unlock_own q.1 h1) h2 q.2
  rf := fun U' ρ' σ' H' d a R' f q => k.rf _ _ _ _ d a (loopOut R r R' q.1) ⟨f.top, f.u, up_new R f.new⟩ q.2
theorem simFor {wk : Bool} {w : TI} {g : TG} {tb : TS} {w3 : T3I} {g3 : T3G} {tb3 : T3S} {ix : List Nat} (hw : SimI K wk w w3) (hg : SimG K wk g g3 ix) (hb : SimS K tb tb3) : SimS K (tFor w g tb) (sFor w3 g3 tb3) := by
  intro F U ρ σ H D3 D2 e R q k
  refine hw F U ρ σ H _ _ e R q fun J it ρ1 H1 R1 s1 jok h1 => ?_
  have Rf := loopIn R1 it.r
  have ku := k.under R1 it.r
  refine ⟨fun i m σ' H' => m = it.items.length - i ∧ i ≤ it.items.length ∧ ∃ U' ρ', Rel (F.at U (lockE ρ1 it.r) σ H1) U' ρ' σ' H' ∧ forL g3 tb3 (D3.under ρ1 it.r) (it.items.drop i) ρ', ⟨_, rfl, Nat.zero_le _, U, _, Rf, h1⟩, ?_⟩
  rintro i m σ' H' ⟨rfl, hi, U', ρ', R', q'⟩
  have eK : (F.at U (lockE ρ1 it.r) σ H1).K = K := e
  obtain ⟨j1, j2⟩ := jok _ U' ρ' σ' H' eK R' R'.pres0 R'.keep i
  by_cases hl : i < it.items.length
  · right
    obtain ⟨d, hd⟩ : ∃ d, it.items[i]? = some d := ⟨_, List.getElem?_eq_getElem hl⟩
    have ed : it.items.drop i = d :: it.items.drop (i + 1) := by
      rw [List.drop_eq_getElem_cons hl]
      congr 1
      rw [List.getElem?_eq_getElem hl] at hd
      exact Option.some.inj hd
    rw [ed] at q'
    obtain ⟨g1, g2⟩ := j1 d hd
    refine ⟨g1, fun σ2 H2 => ∃ U2 ρ2, Rel (F.at U (lockE ρ1 it.r) σ H1) U2 ρ2 σ2 H2 ∧ forL g3 tb3 (D3.under ρ1 it.r) (it.items.drop (i + 1)) ρ2, fun σ2 H2 z => ⟨it.items.length - (i + 1), by omega, rfl, hl, z⟩, fun x H3 hy => ?_⟩
    obtain ⟨ex, rx⟩ := g2 x H3 hy
    rw [← eK] at rx
    refine hg _ U' ρ' σ' H3 d x _ _ eK (R'.ext ex) rx q' fun ρ3 σ3 R3 _ _ q3 => ?_
    refine hb _ U' ρ3 σ3 H3 _ _ eK R3 q3 ⟨fun U4 ρ4 σ4 H4 R4 q4 => ⟨U4, ρ4, R4, q4⟩, ku.nx, fun U4 ρ4 σ4 H4 R4 q4 => ⟨U4, ρ4, R4, q4⟩, ku.rt, ku.ro, ku.rf⟩
  · left
    have e2 : i = it.items.length := by omega
    subst e2
    rw [List.drop_length] at q'
    exact ⟨j2 (Nat.le_refl _), ku.nx _ _ _ _ R' q'⟩
def sWhile (c : T3T) (tb : T3S) : T3S := fun D ρ => ∃ W : Nat → En → Prop, (∃ m, W m ρ) ∧ ∀ m ρ, W m ρ → c ρ fun b ρ1 => if b = true then tb { D with nx := fun ρ' => ∃ m', m' < m ∧ W m' ρ', ct := fun ρ' => ∃ m', m' < m ∧ W m' ρ', bk := D.nx } ρ1 else D.nx ρ1
theorem simWhile {c : TT} {tb : TS} {c3 : T3T} {tb3 : T3S} (hc : SimT K c c3) (hb : SimS K tb tb3) : SimS K (tWhile c tb) (sWhile c3 tb3) := by
  intro F U ρ σ H D3 D2 e R q k
  obtain ⟨W, ⟨m, w⟩, q⟩ := q
  refine ⟨fun m σ' H' => ∃ U' ρ', Rel F U' ρ' σ' H' ∧ W m ρ', ⟨m, U, ρ, R, w⟩, ?_⟩
  rintro m σ' H' ⟨U', ρ', R', w'⟩
  refine hc F U' ρ' σ' H' _ _ e R' (q m ρ' w') fun b ρ1 H1 R1 s1 h1 => ?_
  cases b with
  | false => exact k.nx _ _ _ _ R1 h1
  | true =>
    refine ⟨fun σ2 H2 => ∃ m', m' < m ∧ ∃ U2 ρ2, Rel F U2 ρ2 σ2 H2 ∧ W m' ρ2, fun σ2 H2 ⟨m', hm, z⟩ => ⟨m', hm, z⟩, ?_⟩
    refine hb F U' ρ1 σ' H1 _ _ e R1 h1 ⟨fun U4 ρ4 σ4 H4 R4 ⟨m', hm, z⟩ => ⟨m', hm, U4, ρ4, R4, z⟩, k.nx, fun U4 ρ4 σ4 H4 R4 ⟨m', hm, z⟩ => ⟨m', hm, U4, ρ4, R4, z⟩, k.rt, k.ro, k.rf⟩
end
end L3

set_option Elab.async false
set_option linter.all false
set_option maxRecDepth 100000
namespace L3
open PySem PySem.Spec PyProof.Rows L2

set_option maxHeartbeats 1000000 in
theorem meets_enumerate_newT {v : Value} {o : Obj} {H : Heap → Prop} (B : Begins v o H) :
    Meets (Builtin.«enumerate.__new__» ⟨[.type "enumerate", v], []⟩) (fun _ R s => H s.heap ∧
      R (.ok (.ret (.ref (s.heap.push o).objs.size))) { s with heap := (s.heap.push o).push { cls := .type "enumerate", data := .fields #[.none, .bool false, .ref s.heap.objs.size, rawInt 0, .none, .none] } }) :=
  .of_wp fun prog w A R s h => by
    obtain ⟨hp, g, d, tk, os⟩ := s; obtain ⟨h1, h⟩ := h
    have hsub := sub_enumerate
    have q1 : ∀ {A' : Around} {E : Value → Shared → Prop} {Q : Value → Shared → Prop}, Q (.ref hp.objs.size) ⟨hp.push o, g, d, tk, os⟩ → wpAny (model prog w) A' (pyIter v) Q E ⟨hp, g, d, tk, os⟩ :=
      fun q => B.iter prog w _ _ ⟨hp, g, d, tk, os⟩ _ h1 q
    wp_walk using q1
    refine wpAny_stack_any fun st => wpAny_pure ?_
    split
    · rename_i c _ _ _ _ _
      cases (c == Value.type "enumerate")
      · wp_walk using q1
        exact ⟨_, rfl, h⟩
      · wp_walk using q1
        exact ⟨_, rfl, h⟩
    · wp_walk using q1
      exact ⟨_, rfl, h⟩
theorem enum_beginsT {prog : Program} {w : World} {A : Around} {E : Value → Shared → Prop} {s : Shared} {v : Value} {o : Obj} {H : Heap → Prop} {Q : Value → Shared → Prop} (B : Begins v o H) (h1 : H s.heap)
    (h : ∀ h', IsEnum h' (s.heap.objs.size + 1) s.heap.objs.size 0 .none → h'.get? s.heap.objs.size = some o → h'.objs.size = s.heap.objs.size + 2 →
      (∀ b o, s.heap.get? b = some o → h'.get? b = some o) → Q (.ref (s.heap.objs.size + 1)) { s with heap := h' }) :
    wpAny (model prog w) A (call (.type "enumerate") [v]) Q E s := by
  refine callType_new F.called_enumerate (by decide) (F.typeCall_enumerate_1 _) (F.newCall_enumerate_1 _) (fun obj => F.args_object_init_2 obj _) F.entry_enumerate_new
    (meets_enumerate_newT B) ⟨h1, ?_⟩
  have hz : (s.heap.push o).objs.size = s.heap.objs.size + 1 := Heap.size_push ..
  show _ ∧ _
  rw [hz]
  have he : IsEnum ((s.heap.push o).push { cls := .type "enumerate", data := .fields #[.none, .bool false, .ref s.heap.objs.size, rawInt 0, .none, .none] }) (s.heap.objs.size + 1) s.heap.objs.size 0 .none := by
    have := Heap.get?_push_size (s.heap.push o) (o := { cls := .type "enumerate", data := .fields #[.none, .bool false, .ref s.heap.objs.size, rawInt 0, .none, .none] }) rfl
    rw [hz] at this; exact this
  refine ⟨⟨_, he, rfl⟩, h _ he (Heap.get?_push_of_some _ (Heap.get?_push_size _ B.free)) (by rw [Heap.size_push, hz]) fun b o x => Heap.get?_push_of_some _ (Heap.get?_push_of_some _ x)⟩
/-- the tuple at a, each item in a new pair -/
def IteT (K : PySem.W.Frag) (a : Addr) : It :=
  ⟨fun i H => ∃ (xs : List V) (x : V), SqT K H a xs ∧ xs[i]? = some x, fun i H v H' => ∃ T x, v = .ref T ∧ H T = none ∧ H' = upd H T (.tup [.int (i : Nat), x]) ∧ ∀ xs, SqT K H a xs → xs[i]? = some x, fun i H => ∃ xs : List V, SqT K H a xs ∧ xs.length ≤ i⟩
theorem turn_enumT {P : Program} {w : World} {K : PySem.W.Frag} {elts : List Expr} {kk : Nat} {tpos : Pos} (a e it : Addr) :
    Turn P w K (.Tuple elts kk tpos) (IteT K a) [e, it] e (fun i h => (∃ old, IsEnum h e it ((i : Nat) : Int) old) ∧ h.IsTupleIter it a i ∧ e ≠ it) where
  mem := by simp
  obj := fun i h st b hb => by
    obtain ⟨⟨old, he⟩, ⟨o, ho, hc, hd⟩, _⟩ := st
    have e' : b = e ∨ b = it := by simpa using hb
    rcases e' with z | z
    · rw [z]; exact ⟨_, he, fun v q => nomatch q⟩
    · rw [z]; exact ⟨o, ho, fun v q => by rw [hd] at q; cases q⟩
  keep := fun i h h' st k => let ⟨⟨old, he⟩, hi, hne⟩ := st; ⟨⟨old, k e (by simp) _ he⟩, hi.at fun o q => k it (by simp) o q, hne⟩
  item := by
    intro X hP hw hK hc i pins s σ H E I hf st hg
    subst hP hw hK
    obtain ⟨⟨old, he⟩, hit, hne⟩ := st
    obtain ⟨xs, x, hq, hx⟩ := hg
    obtain ⟨its, rv, p, hz⟩ := I.tuple hq
    obtain ⟨u, hu, ru⟩ := rv.get hx
    have hel : e < s.heap.objs.size := Heap.lt_size he
    have hil : it < s.heap.objs.size := by obtain ⟨_, q, _⟩ := hit; exact Heap.lt_size q
    have hh := I.ok.hd hc
    have hea : e ≠ a := fun z => by
      obtain ⟨o, ho, hcl, _⟩ := p
      subst z
      have he' := he
      unfold IsEnum at he'
      rw [ho] at he'; cases he'
      injection hcl with z; exact absurd z (by decide)
    have hia : a ≠ it := fun z => by
      obtain ⟨o, ho, hcl, _⟩ := p
      subst z
      obtain ⟨o', ho', hcl', _⟩ := hit
      rw [ho] at ho'; cases ho'
      rw [hcl] at hcl'
      injection hcl' with z; exact absurd z (by decide)
    have D := Draws.tuple (prog := X.prog) (w := X.w) (A := X.A.in1) (show X.A.in1.handled = none from hh) it a hia its.toArray
    have pl : s.heap.IsTuple a its.toArray := p
    have hlt : i < its.toArray.size := by
      rw [List.size_toArray]; exact (List.getElem?_eq_some_iff.mp hu).1
    refine wpAny_pyNext_enum_itemD D he ⟨hit, pl⟩ hlt hne (by simp [hne, hea]) fun y h' tk hP ho st' hT hsz hk => ?_
    have ey : y = u := by
      have hP : its.toArray[i]? = some y := hP
      have : its[i]? = some y := by simpa using hP
      rw [hu] at this; exact (Option.some.inj this).symm
    subst ey
    refine ⟨_, rfl, wpAny_letOwnedTupleGo_enum (s := { s with heap := h', toks := tk + 1 }) ho fun h'' he' sb => ?_⟩
    have hT2 : h''.get? s.heap.objs.size = some { cls := .type "tuple", data := .seq #[.int i tk, y] } := (sb.2 _ (Nat.ne_of_gt hel)).trans hT
    have new : ObjOk X.prog X.w (upd H s.heap.objs.size (.tup [.int (i : Nat), x])) h'' s.heap.objs.size (.tup [.int (i : Nat), x]) :=
      ⟨by show 2 ≤ sizeLine; decide, [.int i tk, y], .cons ⟨_, rfl⟩ (.cons ru .nil), ⟨_, hT2, rfl, _, rfl⟩⟩
    have I1 : Inv X pins σ (upd H s.heap.objs.size (.tup [.int (i : Nat), x])) { s with heap := h'', toks := tk + 1 } :=
      I.turnedNew (ch := [e, it]) (fun b ob hb q => (sb.2 b (fun z => hb (by simp [z]))).trans (hk b ob (fun z => hb (by simp [z])) (fun z => hb (by simp [z])) q)) hf (Nat.le_refl _) new
    refine ⟨.ref s.heap.objs.size, _, I1, rfl, ⟨_, x, rfl, I.hok.fresh (Nat.le_refl _), rfl, fun ys hy => ?_⟩, ⟨⟨y, ?_⟩, st'.1.at fun o q => (sb.2 it (Ne.symm hne)).trans q, hne⟩, fun b hb => ?_⟩
    · obtain ⟨its2, rv2, p2, _⟩ := I.tuple hy
      have e2 : its2 = its := by
        obtain ⟨o1, g1, _, n1, g3⟩ := (show s.heap.IsTuple a its.toArray from p)
        obtain ⟨o2, k1, _, n2, k3⟩ := (show s.heap.IsTuple a its2.toArray from p2)
        rw [g1] at k1; cases k1
        rw [g3] at k3
        injection k3 with k3 _
        have := congrArg Array.toList k3
        simpa using this.symm
      subst e2
      have : ys = xs := by
        have go : ∀ {as bs : List V} {us : List Value}, Vals as us → Vals bs us → bs = as := fun {as bs us} h1 => by
          induction h1 generalizing bs with
          | nil => intro h2; cases h2; rfl
          | @cons p q ps qs hpq _ ih =>
            intro h2
            cases h2 with
            | @cons p' q' ps' qs' hp' ht' => rw [ih ht', hpq.inj hp']
        exact go rv rv2
      rw [this]; exact hx
    · have e1 : ((i + 1 : Nat) : Int) = (i : Int) + 1 := by omega
      rw [e1]; exact he'
    · have hb' : b < s.heap.objs.size := by
        have e' : b = e ∨ b = it := by simpa using hb
        rcases e' with z | z
        · rw [z]; exact hel
        · rw [z]; exact hil
      rw [upd_ne (Nat.ne_of_lt hb')]
      exact (hf b hb).1
  done := by
    intro X hP hw hK hc i pins s σ H E I hf st hg
    subst hP hw hK
    obtain ⟨⟨old, he⟩, hit, hne⟩ := st
    obtain ⟨xs, hq, hx⟩ := hg
    obtain ⟨its, rv, p, hz⟩ := I.tuple hq
    have hh := I.ok.hd hc
    have hia : a ≠ it := fun z => by
      obtain ⟨o, ho, hcl, _⟩ := p
      subst z
      obtain ⟨o', ho', hcl', _⟩ := hit
      rw [ho] at ho'; cases ho'
      rw [hcl] at hcl'
      injection hcl' with z; exact absurd z (by decide)
    have hl := rv.length
    obtain ⟨f0, f1, f2, f3, f4, f5⟩ := hf it (by simp)
    have hT : s.TypeIs (.ref e) "enumerate" := ⟨_, he, rfl⟩
    unfold pyNext
    refine wpAny_bind (wpAny_attempt (wpAny_callSpecial?_slot (name := Str.ofString "__next__") hT F.slot_enumerate_next
      (wpAny_call_entry F.slot_enumerate_next hT F.entry_enumerate_next ?_ (F.args_enumerate_next_1 _))))
    show wpAny _ _ (field (.ref e) 2 >>= _) _ _ _
    refine wpAny_bind (wpAny_field he rfl (x := .ref it) rfl ?_)
    refine wpAny_bind (wpAny_nextOf_tuple_end hh hit (show s.heap.IsTuple a its.toArray from p) (by simp; omega) fun h' x eb hx' => ?_)
    obtain ⟨o, ho, hc2⟩ := hx'
    refine wpAny_bind (wpAny_isInstance (T := "StopIteration") (b := true) ⟨o, ho, hc2⟩ isSubtype_stop ?_)
    exact wpAny_pure ⟨rfl, I.turned (t' := s.toks) (fun b o hb q => eb b o hb q) f0 f1 f3 f4 f5⟩
  self := fun A i s Q E st h => let ⟨⟨_, he⟩, _⟩ := st; wpAny_pyIter_enum he h
def iEnumP (K : PySem.W.Frag) (ta : TA) : TI := fun σ H R => ta σ H fun vs H1 => ∃ a xs, vs = [.ref a] ∧ ((SqL K H1 a xs ∧ R (Ite K a) H1) ∨ (SqT K H1 a xs ∧ R (IteT K a) H1))
theorem pi_enumP {X : Cx} {e : Expr} {ta : TA} {p pos tpos : Pos} {elts : List Expr} {kk : Nat} (hg : Gl X "enumerate") (hm : X.mg "enumerate" = none) (ha : PA X [e] ta) (hs : starEach [e] X.env = [(false, eval e X.env)] := by rfl) :
    PI X (.Tuple elts kk tpos) (.Call (.Name "enumerate" p) [e] [] pos) (iEnumP X.K ta) := by
  refine ⟨fun pins s σ H R I h => ?_⟩
  refine Call_ (ld_blt I hg hm boot_enumerate (PyProof.Rows.callWith_type1 (thn (ha.run pos pins s σ H _ I h) fun us s1 ⟨vs, H1, I1, r1, q1⟩ => ?_) hs rfl))
  obtain ⟨a, xs, ex, q⟩ := q1
  subst ex
  cases r1 with
  | cons r rr =>
    cases rr
    cases r
    rcases q with ⟨hq, q⟩ | ⟨hq, q⟩
    · obtain ⟨its, rv, p', hz⟩ := I1.list hq
      refine call_enumerate_list p'.isList fun h' he hit hsz hk => wpAny_pyIter_enum he ?_
      have I2 : Inv X pins σ H1 { s1 with heap := h' } := I1.kept (t' := s1.toks) hk
      refine ⟨s1.heap.objs.size + 1, [s1.heap.objs.size + 1, s1.heap.objs.size], _, _, H1, rfl, I2, turn_enum a (s1.heap.objs.size + 1) s1.heap.objs.size, ⟨⟨.none, he⟩, hit, Nat.succ_ne_self _⟩, fun b hb => ?_, q⟩
      have e' : b = s1.heap.objs.size + 1 ∨ b = s1.heap.objs.size := by simpa using hb
      have hle : s1.heap.objs.size ≤ b := by
        rcases e' with z | z
        · rw [z]; exact Nat.le_add_right _ _
        · rw [z]; exact Nat.le_refl _
      exact I1.fpOk hle (I1.hok.fresh hle)
    · obtain ⟨its, rv, p', hz⟩ := I1.tuple hq
      refine enum_beginsT (begins_tuple a its.toArray) (show s1.heap.IsTuple a its.toArray from p') fun h' he hit hsz hk => wpAny_pyIter_enum he ?_
      have I2 : Inv X pins σ H1 { s1 with heap := h' } := I1.kept (t' := s1.toks) hk
      refine ⟨s1.heap.objs.size + 1, [s1.heap.objs.size + 1, s1.heap.objs.size], _, _, H1, rfl, I2, turn_enumT a (s1.heap.objs.size + 1) s1.heap.objs.size, ⟨⟨.none, he⟩, ⟨_, hit, rfl, rfl⟩, Nat.succ_ne_self _⟩, fun b hb => ?_, q⟩
      have e' : b = s1.heap.objs.size + 1 ∨ b = s1.heap.objs.size := by simpa using hb
      have hle : s1.heap.objs.size ≤ b := by
        rcases e' with z | z
        · rw [z]; exact Nat.le_add_right _ _
        · rw [z]; exact Nat.le_refl _
      exact I1.fpOk hle (I1.hok.fresh hle)
section
variable {F : Fr} {U U2 : US} {ρ ρ' ρ2 : En} {σ σ2 : L2.St} {H H' H2 : Hp} {K : PySem.W.Frag}
def iEP (g : T3A) : T3I := fun ρ Q => g ρ fun rs ρ1 => match rs with
  | [x] => wd x ρ1 fun d => match d with
    | .lst ds => Q ⟨pairsD ds, x⟩ ρ1
    | .tup ds => Q ⟨pairsD ds, x⟩ ρ1
    | _ => False
  | _ => False
theorem simIEP {t : TA} {g : T3A} (h : SimA K t g) : SimI K true (iEnumP K t) (iEP g) := by
  intro F U ρ σ H Q3 R2 e R q k
  refine h F U ρ σ H _ _ e R q fun rs vs ρ1 H1 R1 s1 q1 h1 => ?_
  subst e
  cases q1 with
  | nil => exact h1.elim
  | cons q1 qs =>
    cases qs with
    | cons _ _ => exact h1.elim
    | nil =>
      rename_i r v
      obtain ⟨d, e1, h1⟩ := wd_out h1
      cases d <;> first | exact h1.elim | skip
      · rename_i ds
        obtain ⟨a, vs, rfl, z1, z2, z3⟩ := q1.tup R1 e1
        refine ⟨a, vs, rfl, .inr ⟨z1, k _ ⟨_, r⟩ ρ1 H1 R1 s1 ?_ h1⟩⟩
        intro F2 U2 ρ2 σ2 H2 eK R2' p kp i
        have z4 := Rp.pres p _ _ z3
        simp only [Rp] at z4
        obtain ⟨a', ws, ea, w1, w2⟩ := z4
        cases ea
        refine ⟨fun d hd => ?_, fun hi => ⟨ws, w1.sq, by rw [w2.len]; rw [pairsD_len] at hi; exact hi⟩⟩
        obtain ⟨x, hx, rfl⟩ := pairsD_get hd
        obtain ⟨y, hy, ry⟩ := w2.get hx
        refine ⟨⟨ws, y, w1.sq, hy⟩, fun z H3 hz => ?_⟩
        obtain ⟨T, y', rfl, hT, rfl, hz⟩ := hz
        have := hz ws w1.sq
        rw [hy] at this; cases this
        refine ⟨ext_new hT, .inr ⟨rfl, T, _, _, rfl, rfl, .inl (.inl upd_same), ?_⟩⟩
        simp only [RpAll, Rp]
        exact ⟨_, _, rfl, rfl, _, _, rfl, Rp.pres (fun a o h n => ⟨ext_new hT a o h, n⟩) x y ry, rfl⟩
      · rename_i ds
        obtain ⟨a, vs, rfl, z1, z2, z3⟩ := heldL R1 q1 e1
        refine ⟨a, vs, rfl, .inl ⟨.inl z1, k _ ⟨_, r⟩ ρ1 H1 R1 s1 ?_ h1⟩⟩
        intro F2 U2 ρ2 σ2 H2 eK R2' p kp i
        have w1 := z3 H2 U2 p kp
        have w2 := RpAll.pres p ds vs z2
        refine ⟨fun d hd => ?_, fun hi => ⟨vs, .inl w1, by rw [w2.len]; rw [pairsD_len] at hi; exact hi⟩⟩
        obtain ⟨x, hx, rfl⟩ := pairsD_get hd
        obtain ⟨y, hy, ry⟩ := w2.get hx
        refine ⟨⟨vs, y, .inl w1, hy⟩, fun z H3 hz => ?_⟩
        obtain ⟨T, y', rfl, hT, rfl, hz⟩ := hz
        have := hz vs (.inl w1)
        rw [hy] at this; cases this
        refine ⟨ext_new hT, .inr ⟨rfl, T, _, _, rfl, rfl, .inl (.inl upd_same), ?_⟩⟩
        simp only [RpAll, Rp]
        exact ⟨_, _, rfl, rfl, _, _, rfl, Rp.pres (fun a o h n => ⟨ext_new hT a o h, n⟩) x y ry, rfl⟩
end
end L3

set_option Elab.async false
set_option linter.all false
set_option maxRecDepth 100000
namespace L3
open PySem PySem.Spec L2
open PyProof.Rows (b2i)
section
variable {F : Fr} {U U2 : US} {ρ ρ' ρ2 : En} {σ σ2 : St} {H H' H2 : Hp} {K : PySem.W.Frag}

/-! ### an owned slot is written -/
def putF' (f : Str) (d : D) : List (Str × D) → List (Str × D)
  | [] => [(f, d)]
  | (g, x) :: r => if g = f then (g, d) :: r else (g, x) :: putF' f d r
/-- the box b in the field f of an instance, with other data -/
def boxW (s : Sl) (f : Str) (b : Addr) (k : D → (D → Sl) → Prop) : Prop := match s with
  | .owb (.obj C fs) => match fs.lookup f with
    | some (.bx b' d) => b' = b ∧ k d fun d' => .owb (.obj C (putF' f (.bx b d') fs))
    | _ => False
  | .pab (.obj C fs) => match fs.lookup f with
    | some (.bx b' d) => b' = b ∧ k d fun d' => .pab (.obj C (putF' f (.bx b d') fs))
    | _ => False
  | _ => False
def ww (r : Rs) (ρ : En) (k : D → (D → En) → Prop) : Prop := match r with
  | .sl i => match ρ[i]? with
    | some (.own d) => k d fun d' => ρ.set i (.own d')
    | some (.par d) => k d fun d' => ρ.set i (.par d')
    | _ => False
  | .bx i f b => match ρ[i]? with
    | some s => boxW s f b fun d up => k d fun d' => ρ.set i (up d')
    | none => False
  | .val _ => False
theorem bxsF_put {f : Str} {b : Addr} {d d' : D} : ∀ {fs : List (Str × D)}, fs.lookup f = some (.bx b d) → bxsF (putF' f (.bx b d') fs) = bxsF fs
  | [], e => by cases e
  | (k, x) :: fs, e => by
    rw [List.lookup_cons] at e
    by_cases hk : f = k
    · subst hk
      rw [beq_self_eq_true] at e; cases e
      rw [putF', if_pos rfl]; rfl
    · have hb : (f == k) = false := beq_eq_false_iff_ne.mpr hk
      rw [hb] at e
      rw [putF', if_neg fun z => hk z.symm]
      have ih := bxsF_put (d' := d') e
      cases x <;> first | exact ih | (show _ :: _ = _ :: _; rw [ih])
/-- an instance's boxes when one of them is written -/
theorem OvF.write {b : Addr} {o' : HO} {d d' : D} {f : Str} (t : TopW K (upd H b o') U d' b) (u : U b) : ∀ {fs : List (Str × D)} {gs : List (Str × V)}, OvF K H U fs gs → (bxsF fs).Nodup → fs.lookup f = some (.bx b d) → OvF K (upd H b o') U (putF' f (.bx b d') fs) gs
  | [], _, _, _, e => by cases e
  | (k, x) :: fs, _, h, nd, e => by
    simp only [OvF] at h
    obtain ⟨v, r, rfl, h1, h2⟩ := h
    have p : Pres H U (upd H b o') U := fun y o h n => ⟨by rw [upd_ne (fun e => n (by rw [e]; exact u))]; exact h, n⟩
    rw [List.lookup_cons] at e
    by_cases hk : f = k
    · subst hk
      rw [beq_self_eq_true] at e; cases e
      rw [putF', if_pos rfl]
      have h1 : v = .ref b ∧ U b ∧ TopW K H U d b := h1
      have nd : b ∉ bxsF fs := (List.nodup_cons.mp nd).1
      simp only [OvF]
      exact ⟨v, r, rfl, ⟨h1.1, u, t⟩, h2.pres p fun x hx ux => ⟨ux, fun o ho => by rw [upd_ne (fun e : x = b => nd (by rw [← e]; exact hx))]; exact ho⟩⟩
    · have hb : (f == k) = false := beq_eq_false_iff_ne.mpr hk
      rw [hb] at e
      rw [putF', if_neg fun z => hk z.symm]
      simp only [OvF]
      refine ⟨v, r, rfl, ?_, OvF.write t u h2 (by cases x <;> first | exact nd | exact (List.nodup_cons.mp nd).2) e⟩
      cases x with
      | bx b' x =>
        obtain ⟨e1, u', t'⟩ := h1
        have hb' : b' ≠ b := fun z => (List.nodup_cons.mp nd).1 (z ▸ lookup_bxs e)
        exact ⟨e1, u', t'.pres p fun o ho => by rw [upd_ne hb']; exact ho⟩
      | _ => exact Rp.pres p _ _ h1
theorem Rel.writeSX (R : Rel F U ρ σ H) {i : Nat} {s : Sl} {a x : Addr} {d' : D} {o' : HO} (h1 : ρ[i]? = some s) (h2 : s.isW = true) (h3 : σ[i]? = some (some (.ref a))) (hx : s.reg (some (.ref a)) x)
    (hb : ∀ y, y ∈ (s.upd d').bxs → y ∈ s.bxs) (new : SlotOk F.K (upd H x o') U (s.upd d') (some (.ref a))) : Rel F U (ρ.set i (s.upd d')) σ (upd H x o') ∧ Stp ρ σ H (ρ.set i (s.upd d')) (upd H x o') := by
  refine ⟨R.writeX h1 h2 h3 hx hb new, fun y o h n => ?_, fun y ⟨j, t, o, q1, q2, q3⟩ => ?_, fun y o h => ?_⟩
  · have nx : y ≠ x := fun e => n (by rw [e]; exact ⟨i, s, _, h1, h3, hx⟩)
    rw [upd_ne nx]; exact h
  · rcases set_get q1 with ⟨e, rfl, _⟩ | ⟨_, q1⟩
    · subst e; exact ⟨i, s, o, h1, q2, reg_upd q3 hb⟩
    · exact ⟨j, t, o, q1, q2, q3⟩
  · by_cases e : y = x
    · subst e; exact ⟨_, upd_same⟩
    · exact ⟨o, by rw [upd_ne e]; exact h⟩
theorem Rel.writeS (R : Rel F U ρ σ H) {i : Nat} {s : Sl} {a : Addr} {d' : D} {o' : HO} (h1 : ρ[i]? = some s) (h2 : s.isW = true) (hf : s.flat = true) (h3 : σ[i]? = some (some (.ref a)))
    (new : TopW F.K (upd H a o') U d' a) : Rel F U (ρ.set i (s.upd d')) σ (upd H a o') ∧ Stp ρ σ H (ρ.set i (s.upd d')) (upd H a o') :=
  R.writeSX h1 h2 h3 ⟨h2, .inl rfl⟩ (fun y hy => by rw [flat_bxs (flat_upd.trans hf)] at hy; cases hy) (flat_ok h2 hf (R.ownU (Own.root h1 h2 h3)) new)
theorem ww_out (R : Rel F U ρ σ H) {r : Rs} {v : V} {k : D → (D → En) → Prop} (q : RV F U σ H r v) (h : ww r ρ k) :
    ∃ d up a, v = .ref a ∧ U a ∧ TopW F.K H U d a ∧ (∀ {d' : D} {o' : HO}, TopW F.K (upd H a o') U d' a → Rel F U (up d') σ (upd H a o') ∧ Stp ρ σ H (up d') (upd H a o')) ∧ k d up := by
  cases r with
  | val d => exact h.elim
  | sl i =>
    have q : σ[i]? = some (some v) := q
    have h : (match ρ[i]? with | some (.own d) => k d fun d' => ρ.set i (.own d') | some (.par d) => k d fun d' => ρ.set i (.par d') | _ => False) := h
    cases hs : ρ[i]? with
    | none => rw [hs] at h; exact h.elim
    | some s =>
      rw [hs] at h
      have z := R.slot i s _ hs q
      cases s with
      | own d => obtain ⟨a, e, u, t⟩ := z; cases e; exact ⟨d, _, a, rfl, u, t, fun {d' o'} t' => R.writeS hs rfl rfl q t', h⟩
      | par d => obtain ⟨a, e, u, t⟩ := z; cases e; exact ⟨d, _, a, rfl, u, t, fun {d' o'} t' => R.writeS hs rfl rfl q t', h⟩
      | _ => exact h.elim
  | bx i f b =>
    have q : v = .ref b := q
    have h : (match ρ[i]? with | some s => boxW s f b fun d up => k d fun d' => ρ.set i (up d') | none => False) := h
    cases hs : ρ[i]? with
    | none => rw [hs] at h; exact h.elim
    | some s =>
      rw [hs] at h
      have hi : i < σ.length := by rw [← R.len]; exact (List.getElem?_eq_some_iff.mp hs).1
      have hσ : σ[i]? = some σ[i] := List.getElem?_eq_getElem hi
      have z := R.slot i s _ hs hσ
      -- one proof for both kinds
      have go : ∀ (C : Addr) (fs : List (Str × D)), s.dat = some (.obj C fs) → s.isW = true → s.bxs = bxsF fs → s.upd (.obj C fs) = s → (∀ d', (s.upd d').bxs = d'.bxs) → (∀ {H' : Hp} {d' : D} {a : Addr}, U a → TopB F.K H' U d' a → SlotOk F.K H' U (s.upd d') (some (.ref a))) →
          (∃ a, σ[i] = some (.ref a) ∧ U a ∧ TopB F.K H U (.obj C fs) a) → ∀ d, fs.lookup f = some (.bx b d) → k d (fun d' => ρ.set i (s.upd (.obj C (putF' f (.bx b d') fs)))) → ∃ d up a, v = .ref a ∧ U a ∧ TopW F.K H U d a ∧ (∀ {d' : D} {o' : HO}, TopW F.K (upd H a o') U d' a → Rel F U (up d') σ (upd H a o') ∧ Stp ρ σ H (up d') (upd H a o')) ∧ k d up := by
        intro C fs e1 e2 e3 e4 e5 e6 ⟨a, ea, ua, dx, gs, g1, g2, g3⟩ d el hk
        obtain ⟨_, _, e7, ub, tb⟩ := g2.get el
        refine ⟨d, _, b, q, ub, tb, fun {d' o'} t' => ?_, hk⟩
        have hne : a ≠ b := fun z => (List.nodup_cons.mp g3).1 (by rw [z]; exact lookup_bxs el)
        have hbx : bxsF (putF' f (.bx b d') fs) = bxsF fs := bxsF_put el
        refine R.writeSX (a := a) hs e2 (hσ.trans (by rw [ea])) ⟨e2, .inr (by rw [e3]; exact lookup_bxs el)⟩ (fun y hy => ?_) (e6 ua ⟨dx, gs, by rw [upd_ne hne]; exact g1, g2.write t' ub (List.nodup_cons.mp g3).2 el, by rw [hbx]; exact g3⟩)
        rw [e5] at hy
        rw [e3, ← hbx]; exact hy
      cases s with
      | owb dd =>
        cases dd with
        | obj C fs =>
          have h : (match fs.lookup f with | some (.bx b' d) => b' = b ∧ k d (fun d' => ρ.set i (.owb (.obj C (putF' f (.bx b d') fs)))) | _ => False) := h
          cases el : fs.lookup f with
          | none => rw [el] at h; exact h.elim
          | some x =>
            rw [el] at h
            cases x with
            | bx b' d =>
              obtain ⟨rfl, h⟩ := h
              exact go C fs rfl rfl rfl rfl (fun _ => rfl) (fun u t => ⟨_, rfl, u, t⟩) z d el h
            | _ => exact h.elim
        | _ => exact h.elim
      | pab dd =>
        cases dd with
        | obj C fs =>
          have h : (match fs.lookup f with | some (.bx b' d) => b' = b ∧ k d (fun d' => ρ.set i (.pab (.obj C (putF' f (.bx b d') fs)))) | _ => False) := h
          cases el : fs.lookup f with
          | none => rw [el] at h; exact h.elim
          | some x =>
            rw [el] at h
            cases x with
            | bx b' d =>
              obtain ⟨rfl, h⟩ := h
              exact go C fs rfl rfl rfl rfl (fun _ => rfl) (fun u t => ⟨_, rfl, u, t⟩) z d el h
            | _ => exact h.elim
        | _ => exact h.elim
      | _ => exact h.elim
theorem pres_w (R : Rel F U ρ σ H) {a : Addr} {o' : HO} (u : U a) : Pres H U (upd H a o') U := fun x o h n =>
  ⟨by rw [upd_ne (fun e => n (by rw [e]; exact u))]; exact h, n⟩
theorem topW_lst {a : Addr} {ds : List D} (t : TopW K H U (.lst ds) a) : ∃ vs, H a = some (.lst vs) ∧ RpAll K H U ds vs := t
/-- a list of an owned slot gets other items -/
theorem lstW (R : Rel F U ρ σ H) {a : Addr} (u : U a) {ds : List D} {vs : List V} (r : RpAll F.K H U ds vs) : TopW F.K (upd H a (.lst vs)) U (.lst ds) a :=
  ⟨vs, upd_same, RpAll.pres (pres_w R u) ds vs r⟩

/-! ### methods -/
abbrev M3 := Rs → List Rs → En → (Rs → En → Prop) → Prop
def SimM (K : PySem.W.Frag) (r2 : V → List V → Hp → VK → Prop) (m3 : M3) : Prop :=
  ∀ (F : Fr) (U : US) (ρ : En) (σ : St) (H : Hp) (x : V) (vs : List V) (rx : Rs) (rs : List Rs) (Q3 : Rs → En → Prop) (Q2 : VK), F.K = K → Rel F U ρ σ H → RV F U σ H rx x → RVs F U σ H rs vs → m3 rx rs ρ Q3 → KE F U ρ σ H Q3 Q2 → r2 x vs H Q2
def D.isT (T : String) : D → Bool
  | .str _ => T == "str"
  | .lst _ => T == "list"
  | _ => false
def eBM (T : String) (m3 : M3) (f : T3E) (g : T3A) : T3E := fun ρ Q => f ρ fun r ρ1 => wd r ρ1 fun d => d.isT T = true ∧ g ρ1 fun rs ρ2 => m3 r rs ρ2 Q
def eBM0 (T : String) (m3 : M3) (f : T3E) : T3E := fun ρ Q => f ρ fun r ρ1 => wd r ρ1 fun d => d.isT T = true ∧ m3 r [] ρ1 Q
theorem rvN : RV F U σ H (.val .non) .non := rp_non (K := F.K) (H := H) (U := U)
theorem rvI {i : Int} : RV F U σ H (.val (.int i)) (.int i) := rp_int (K := F.K) (H := H) (U := U)
theorem rvB {i : Bool} : RV F U σ H (.val (.bl i)) (.bl i) := rp_bl (K := F.K) (H := H) (U := U)
theorem tyV_of (R : Rel F U ρ σ H) {r : Rs} {v : V} {d : D} {T : String} (q : RV F U σ H r v) (e : r.dat ρ = some d) (h : d.isT T = true) : tyV F.K T v H := by
  cases d <;> first | cases h | skip
  · rw [q.str R e]; exact (by simpa [D.isT] using h : T = "str")
  · obtain ⟨a, vs, rfl, z1, z2⟩ := q.lst R e
    exact .inl ⟨by simpa [D.isT] using h, vs, z1⟩
theorem simBM {T : String} {r2 : V → List V → Hp → VK → Prop} {m3 : M3} {t : TE} {u : TA} {f : T3E} {g : T3A} (hm : SimM K r2 m3) (h : SimE K t f) (h' : SimA K u g) : SimE K (tBM K T r2 t u) (eBM T m3 f g) := by
  intro F U ρ σ H Q3 Q2 e R q k
  refine h F U ρ σ H _ _ e R q fun r v ρ1 H1 R1 s1 q1 h1 => ?_
  obtain ⟨d, ed, ht, h1⟩ := wd_out h1
  refine ⟨by rw [← e]; exact tyV_of R1 q1 ed ht, h' F U ρ1 σ H1 _ _ e R1 h1 fun rs vs ρ2 H2 R2 s2 q2 h2 => ?_⟩
  exact hm F U ρ2 σ H2 v vs r rs _ _ e R2 (q1.pres (s2.pres R1)) q2 h2 fun r w ρ3 H3 R3 s3 q3 h3 => k r w ρ3 H3 R3 ((s1.trans s2).trans s3) q3 h3
theorem simBM0 {T : String} {r2 : V → List V → Hp → VK → Prop} {m3 : M3} {t : TE} {f : T3E} (hm : SimM K r2 m3) (h : SimE K t f) : SimE K (tBM0 K T r2 t) (eBM0 T m3 f) := by
  intro F U ρ σ H Q3 Q2 e R q k
  refine h F U ρ σ H _ _ e R q fun r v ρ1 H1 R1 s1 q1 h1 => ?_
  obtain ⟨d, ed, ht, h1⟩ := wd_out h1
  refine ⟨by rw [← e]; exact tyV_of R1 q1 ed ht, ?_⟩
  exact hm F U ρ1 σ H1 v [] r [] _ _ e R1 q1 .nil h1 fun r w ρ3 H3 R3 s3 q3 h3 => k r w ρ3 H3 R3 (s1.trans s3) q3 h3
def v1 (rs : List Rs) (k : D → Prop) : Prop := match rs with
  | [.val d] => k d
  | _ => False
theorem v1_out {rs : List Rs} {vs : List V} {k : D → Prop} (q : RVs F U σ H rs vs) (h : v1 rs k) : ∃ d v, vs = [v] ∧ Rp F.K H U d v ∧ k d := by
  unfold v1 at h
  split at h
  · rename_i d
    cases q with
    | cons q1 qs => cases qs; exact ⟨d, _, rfl, q1, h⟩
  · exact h.elim
def mAppend : M3 := fun r rs ρ Q => v1 rs fun d => ww r ρ fun dl up => match dl with
  | .lst ds => ds.length < sizeLine ∧ Q (.val .non) (up (.lst (ds ++ [d])))
  | _ => False
theorem simAppend : SimM K rAppend mAppend := by
  intro F U ρ σ H x vs rx rs Q3 Q2 e R q qs h k
  obtain ⟨d, v, rfl, rd, h⟩ := v1_out qs h
  obtain ⟨dl, up, a, rfl, u, t, wr, h⟩ := ww_out R q h
  cases dl <;> first | exact h.elim | skip
  rename_i ds
  obtain ⟨ws, z1, z2⟩ := t
  obtain ⟨R', S'⟩ := wr (lstW R u (z2.app (.one rd)))
  exact ⟨a, ws, v, rfl, rfl, z1, by rw [z2.len]; exact h.1, k (.val .non) .non _ _ R' S' rvN h.2⟩
def mPop : M3 := fun r rs ρ Q => match rs with
  | [] => ww r ρ fun dl up => match dl with
    | .lst ds => wo ds[ds.length - 1]? fun d => Q (.val d) (up (.lst ds.dropLast))
    | _ => False
  | _ => False
theorem simPop : SimM K rPop mPop := by
  intro F U ρ σ H x vs rx rs Q3 Q2 e R q qs h k
  unfold mPop at h
  cases qs with
  | cons _ _ => exact h.elim
  | nil =>
    obtain ⟨dl, up, a, rfl, u, t, wr, h⟩ := ww_out R q h
    cases dl <;> first | exact h.elim | skip
    rename_i ds
    obtain ⟨d, ed, h⟩ := wo_out h
    obtain ⟨ws, z1, z2⟩ := t
    obtain ⟨w, hw, rw'⟩ := z2.get ed
    obtain ⟨R', S'⟩ := wr (lstW R u z2.dropLast)
    exact ⟨a, ws, w, rfl, rfl, z1, by rw [z2.len]; exact hw, k (.val d) w _ _ R' S' (Rp.pres (pres_w R u) _ _ rw') h⟩
def mPopAt : M3 := fun r rs ρ Q => match rs with
  | [x] => wd x ρ fun di => match di with
    | .int i => ww r ρ fun dl up => match dl with
      | .lst ds => wo (ixN ds.length i) fun j => (-(2 ^ 63) ≤ i ∧ i < 2 ^ 63) ∧ wo ds[j]? fun d => Q (.val d) (up (.lst (ds.eraseIdx j)))
      | _ => False
    | _ => False
  | _ => False
theorem simPopAt : SimM K rPopAt mPopAt := by
  intro F U ρ σ H x vs rx rs Q3 Q2 e R q qs h k
  unfold mPopAt at h
  cases qs with
  | nil => exact h.elim
  | cons q1 qs =>
    cases qs with
    | cons _ _ => exact h.elim
    | nil =>
      obtain ⟨di, ei, h⟩ := wd_out h
      cases di <;> first | exact h.elim | skip
      rename_i j
      obtain ⟨dl, up, a, rfl, u, t, wr, h⟩ := ww_out R q h
      cases dl <;> first | exact h.elim | skip
      rename_i ds
      obtain ⟨jj, ej, ⟨b1, b2⟩, h⟩ := wo_out h
      obtain ⟨d, ed, h⟩ := wo_out h
      obtain ⟨ws, z1, z2⟩ := t
      obtain ⟨w, hw, rw'⟩ := z2.get ed
      obtain ⟨R', S'⟩ := wr (lstW R u (z2.erase jj))
      exact ⟨a, ws, j, jj, w, rfl, by rw [q1.int R ei], z1, b1, b2, by rw [z2.len]; exact (ixN_seq ej).1, hw, k (.val d) w _ _ R' S' (Rp.pres (pres_w R u) _ _ rw') h⟩
def mInsert : M3 := fun r rs ρ Q => match rs with
  | [x, .val d] => wd x ρ fun di => match di with
    | .int i => ww r ρ fun dl up => match dl with
      | .lst ds => (ds.length < sizeLine ∧ 0 ≤ i ∧ i < 2 ^ 63) ∧ Q (.val .non) (up (.lst (ds.take i.toNat ++ [d] ++ ds.drop i.toNat)))
      | _ => False
    | _ => False
  | _ => False
theorem simInsert : SimM K (fun x vs H Q => ∃ (l : Addr) (xs : List V) (i : Int) (y : V), x = .ref l ∧ vs = [.int i, y] ∧ H l = some (.lst xs) ∧ xs.length < sizeLine ∧ 0 ≤ i ∧ i < 2 ^ 63 ∧
    Q .non (upd H l (.lst (xs.take i.toNat ++ [y] ++ xs.drop i.toNat)))) mInsert := by
  intro F U ρ σ H x vs rx rs Q3 Q2 e R q qs h k
  unfold mInsert at h
  split at h
  · rename_i x d
    cases qs with
    | cons q1 qs =>
      cases qs with
      | cons q2 qs =>
        cases qs
        obtain ⟨di, ei, h⟩ := wd_out h
        cases di <;> first | exact h.elim | skip
        rename_i j
        obtain ⟨dl, up, a, rfl, u, t, wr, h⟩ := ww_out R q h
        cases dl <;> first | exact h.elim | skip
        rename_i ds
        obtain ⟨ws, z1, z2⟩ := t
        obtain ⟨R', S'⟩ := wr (lstW R u (((z2.take j.toNat).app (.one q2)).app (z2.drop j.toNat)))
        exact ⟨a, ws, j, _, rfl, by rw [q1.int R ei], z1, by rw [z2.len]; exact h.1.1, h.1.2.1, h.1.2.2, k (.val .non) _ _ _ R' S' rvN h.2⟩
  · exact h.elim
def mExtend : M3 := fun r rs ρ Q => match rs with
  | [x] => wn x ρ fun dx => match dx with
    | .lst es => ww r ρ fun dl up => match dl with
      | .lst ds => ds.length + es.length ≤ sizeLine ∧ Q (.val .non) (up (.lst (ds ++ es)))
      | _ => False
    | _ => False
  | _ => False
theorem simExtend : SimM K rExtend mExtend := by
  intro F U ρ σ H x vs rx rs Q3 Q2 e R q qs h k
  unfold mExtend at h
  cases qs with
  | nil => exact h.elim
  | cons q1 qs =>
    cases qs with
    | cons _ _ => exact h.elim
    | nil =>
      obtain ⟨di, ei, h⟩ := wn_out h
      cases di <;> first | exact h.elim | skip
      rename_i es
      obtain ⟨dl, up, a, rfl, u, t, wr, h⟩ := ww_out R q h
      cases dl <;> first | exact h.elim | skip
      rename_i ds
      obtain ⟨ws, z1, z2⟩ := t
      obtain ⟨b, zs, rfl, y1, y2⟩ := q1.lstN R ei
      obtain ⟨R', S'⟩ := wr (lstW R u (z2.app y2))
      exact ⟨a, b, ws, zs, rfl, rfl, z1, y1, by rw [z2.len, y2.len]; exact h.1, k (.val .non) _ _ _ R' S' rvN h.2⟩
def mClear : M3 := fun r rs ρ Q => match rs with
  | [] => ww r ρ fun dl up => match dl with
    | .lst ds => Q (.val .non) (up (.lst []))
    | _ => False
  | _ => False
theorem simClear : SimM K rClear mClear := by
  intro F U ρ σ H x vs rx rs Q3 Q2 e R q qs h k
  unfold mClear at h
  cases qs with
  | cons _ _ => exact h.elim
  | nil =>
    obtain ⟨dl, up, a, rfl, u, t, wr, h⟩ := ww_out R q h
    cases dl <;> first | exact h.elim | skip
    obtain ⟨ws, z1, z2⟩ := t
    obtain ⟨R', S'⟩ := wr (lstW R u (ds := []) (vs := []) (by simp only [RpAll]))
    exact ⟨a, ws, rfl, rfl, z1, k (.val .non) _ _ _ R' S' rvN h⟩
/-- xs.count(an int), xs a list of ints -/
def D.intsOf : List D → Option (List Int)
  | [] => some []
  | .int i :: ds => (D.intsOf ds).map (i :: ·)
  | _ :: _ => none
theorem intsOf_out : ∀ {ds : List D} {ns : List Int}, D.intsOf ds = some ns → ds = ns.map D.int
  | [], ns, h => by cases h; rfl
  | d :: ds, ns, h => by
    cases d <;> first | (cases h; done) | skip
    have h : (D.intsOf ds).map _ = some ns := h
    cases e : D.intsOf ds with
    | none => rw [e] at h; cases h
    | some r => rw [e] at h; cases h; rw [intsOf_out e]; rfl
theorem intsOf_map : ∀ ns : List Int, D.intsOf (ns.map D.int) = some ns
  | [] => rfl
  | n :: ns => by show (D.intsOf (ns.map D.int)).map _ = _; rw [intsOf_map ns]; rfl
def mCount : M3 := fun r rs ρ Q => match rs with
  | [x] => wd x ρ fun dx => match dx with
    | .int j => wd r ρ fun dl => match dl with
      | .lst ds => wo (D.intsOf ds) fun ns => Q (.val (.int (ns.count j : Nat))) ρ
      | _ => False
    | _ => False
  | _ => False
theorem simCount : SimM K (rCntI K) mCount := by
  intro F U ρ σ H x vs rx rs Q3 Q2 e R q qs h k
  unfold mCount at h
  subst e
  cases qs with
  | nil => exact h.elim
  | cons q1 qs =>
    cases qs with
    | cons _ _ => exact h.elim
    | nil =>
      obtain ⟨di, ei, h⟩ := wd_out h
      cases di <;> first | exact h.elim | skip
      rename_i j
      obtain ⟨dl, el, h⟩ := wd_out h
      cases dl <;> first | exact h.elim | skip
      rename_i ds
      obtain ⟨ns, en, h⟩ := wo_out h
      obtain ⟨a, ws, rfl, z1, z2⟩ := q.lst R el
      rw [intsOf_out en] at z2
      have := z2.ints
      subst this
      exact ⟨a, ns, j, rfl, by rw [q1.int R ei], z1, k (.val _) _ _ _ R (.refl R) rvI h⟩
/-- text methods that need no heap -/
def mS2 (g : Str → Str → D) : M3 := fun r rs ρ Q => match rs with
  | [x] => wd x ρ fun dx => wd r ρ fun dr => match dr, dx with
    | .str a, .str b => Q (.val (g a b)) ρ
    | _, _ => False
  | _ => False
theorem simS2 {g : Str → Str → V} {g3 : Str → Str → D} (hg : ∀ a b H U, Rp K H U (g3 a b) (g a b)) : SimM K (fun x xs H Q => ∃ a b, x = .str a ∧ xs = [.str b] ∧ Q (g a b) H) (mS2 g3) := by
  intro F U ρ σ H x vs rx rs Q3 Q2 e R q qs h k
  unfold mS2 at h
  cases qs with
  | nil => exact h.elim
  | cons q1 qs =>
    cases qs with
    | cons _ _ => exact h.elim
    | nil =>
      obtain ⟨dx, ex, h⟩ := wd_out h
      obtain ⟨dr, er, h⟩ := wd_out h
      cases dr <;> first | exact h.elim | skip
      cases dx <;> first | exact h.elim | skip
      exact ⟨_, _, q.str R er, by rw [q1.str R ex], k (.val _) _ _ _ R (.refl R) (show Rp F.K H U _ _ by rw [e]; exact hg _ _ H U) h⟩
/-- sep.join(a list or a tuple of texts) -/
def D.strsOf : List D → Option (List Str)
  | [] => some []
  | .str i :: ds => (D.strsOf ds).map (i :: ·)
  | _ :: _ => none
theorem strsOf_out : ∀ {ds : List D} {ns : List Str}, D.strsOf ds = some ns → ds = ns.map D.str
  | [], ns, h => by cases h; rfl
  | d :: ds, ns, h => by
    cases d <;> first | (cases h; done) | skip
    have h : (D.strsOf ds).map _ = some ns := h
    cases e : D.strsOf ds with
    | none => rw [e] at h; cases h
    | some r => rw [e] at h; cases h; rw [strsOf_out e]; rfl
theorem strsOf_map : ∀ ns : List Str, D.strsOf (ns.map D.str) = some ns
  | [] => rfl
  | n :: ns => by show (D.strsOf (ns.map D.str)).map _ = _; rw [strsOf_map ns]; rfl

/-! ### stores -/
/-- o[i] = e, o an owned list -/
def sPut (f fo fi : T3E) : T3S := fun E ρ => f ρ fun r ρ1 => fo ρ1 fun o ρ2 => fi ρ2 fun i ρ3 => match r with
  | .val d => wd i ρ3 fun di => match di with
    | .int n => ww o ρ3 fun dl up => match dl with
      | .lst ds => wo (ixN ds.length n) fun j => E.nx (up (.lst (ds.set j d)))
      | _ => False
    | _ => False
  | _ => False
theorem simPut {t to ti : TE} {f fo fi : T3E} (h : SimE K t f) (ho : SimE K to fo) (hi : SimE K ti fi) : SimS K (tAsg t (gSub to ti rSetL)) (sPut f fo fi) := by
  intro F U ρ σ H D3 D2 e R q k
  refine h F U ρ σ H _ _ e R q fun r v ρ1 H1 R1 s1 q1 h1 => ?_
  refine ho F U ρ1 σ H1 _ _ e R1 h1 fun o vo ρ2 H2 R2 s2 q2 h2 => ?_
  refine hi F U ρ2 σ H2 _ _ e R2 h2 fun i vi ρ3 H3 R3 s3 q3 h3 => ?_
  cases r with
  | sl _ => exact h3.elim
  | bx _ _ _ => exact h3.elim
  | val d =>
    obtain ⟨di, ei, h3⟩ := wd_out h3
    cases di <;> first | exact h3.elim | skip
    rename_i n
    obtain ⟨dl, up, a, rfl, u, t', wr, h3⟩ := ww_out R3 (q2.pres (s3.pres R2)) h3
    cases dl <;> first | exact h3.elim | skip
    rename_i ds
    obtain ⟨j, ej, h3⟩ := wo_out h3
    obtain ⟨ws, z1, z2⟩ := t'
    have rd : Rp F.K H3 U d v := Rp.pres (s3.pres R2) _ _ (Rp.pres (s2.pres R1) _ _ q1)
    obtain ⟨R', S'⟩ := wr (lstW R3 u (z2.set j rd))
    exact ⟨a, ws, n, j, rfl, q3.int R3 ei, z1, by rw [z2.len]; exact ej, k.nx _ _ _ _ R' h3⟩

/-! ### dicts with keys that are ints and texts -/
def D.key : D → Option Key
  | .int i => some (.inl i)
  | .str s => some (.inr s)
  | _ => none
theorem key_out {d : D} {k : Key} (h : d.key = some k) {v : V} (r : Rp K H U d v) : v = kV k := by
  cases d <;> first | cases h | skip
  · simp only [Rp] at r; rw [r]; rfl
  · simp only [Rp] at r; rw [r]; rfl
def getD' (kvs : List (Key × D)) (k : Key) : Option D := (kvs.find? fun kv => decide (kv.1 = k)).map (·.2)
def putD (kvs : List (Key × D)) (k : Key) (d : D) : List (Key × D) :=
  if (kvs.any fun kv => decide (kv.1 = k)) = true then kvs.map (fun kv => if kv.1 = k then (kv.1, d) else kv) else kvs ++ [(k, d)]
theorem RpK.get : ∀ {ds : List (Key × D)} {vs : List (Key × V)} (k : Key), RpK K H U ds vs → (getD' ds k = none ∧ valV vs k = none) ∨ ∃ d v, getD' ds k = some d ∧ valV vs k = some v ∧ Rp K H U d v
  | [], _, k, h => by simp only [RpK] at h; subst h; exact .inl ⟨rfl, rfl⟩
  | (k', d) :: ds, _, k, h => by
    simp only [RpK] at h
    obtain ⟨v, r, rfl, h1, h2⟩ := h
    by_cases e : k' = k
    · exact .inr ⟨d, v, by simp [getD', List.find?_cons, e], by simp [valV, List.find?_cons, e], h1⟩
    · have a : getD' ((k', d) :: ds) k = getD' ds k := by simp [getD', List.find?_cons, e]
      have b : valV ((k', v) :: r) k = valV r k := by simp [valV, List.find?_cons, e]
      rw [a, b]
      exact RpK.get k h2
theorem RpK.any : ∀ {ds : List (Key × D)} {vs : List (Key × V)} (k : Key), RpK K H U ds vs → (ds.any fun kv => decide (kv.1 = k)) = (vs.any fun kv => decide (kv.1 = k))
  | [], _, k, h => by simp only [RpK] at h; subst h; rfl
  | (k', d) :: ds, _, k, h => by
    simp only [RpK] at h
    obtain ⟨v, r, rfl, h1, h2⟩ := h
    rw [List.any_cons, List.any_cons, RpK.any k h2]
theorem RpK.map : ∀ {ds : List (Key × D)} {vs : List (Key × V)} (k : Key) {d : D} {v : V}, RpK K H U ds vs → Rp K H U d v → RpK K H U (ds.map fun kv => if kv.1 = k then (kv.1, d) else kv) (vs.map fun kv => if kv.1 = k then (kv.1, v) else kv)
  | [], _, k, d, v, h, _ => by simp only [RpK] at h; subst h; simp only [List.map_nil, RpK]
  | (k', d') :: ds, _, k, d, v, h, q => by
    simp only [RpK] at h
    obtain ⟨v', r, rfl, h1, h2⟩ := h
    rw [List.map_cons, List.map_cons]
    by_cases e : k' = k
    · rw [if_pos e, if_pos e]
      simp only [RpK]
      exact ⟨v, _, rfl, q, RpK.map k h2 q⟩
    · rw [if_neg e, if_neg e]
      simp only [RpK]
      exact ⟨v', _, rfl, h1, RpK.map k h2 q⟩
theorem RpK.snoc : ∀ {ds : List (Key × D)} {vs : List (Key × V)} (k : Key) {d : D} {v : V}, RpK K H U ds vs → Rp K H U d v → RpK K H U (ds ++ [(k, d)]) (vs ++ [(k, v)])
  | [], _, k, d, v, h, q => by simp only [RpK] at h; subst h; simp only [List.nil_append, RpK]; exact ⟨v, [], rfl, q, rfl⟩
  | (k', d') :: ds, _, k, d, v, h, q => by
    simp only [RpK] at h
    obtain ⟨v', r, rfl, h1, h2⟩ := h
    simp only [List.cons_append, RpK]
    exact ⟨v', _, rfl, h1, RpK.snoc k h2 q⟩
theorem RpK.put {ds : List (Key × D)} {vs : List (Key × V)} (k : Key) {d : D} {v : V} (h : RpK K H U ds vs) (q : Rp K H U d v) : RpK K H U (putD ds k d) (putK vs k v) := by
  unfold putD putK
  rw [RpK.any k h]
  by_cases e : (vs.any fun kv => decide (kv.1 = k)) = true
  · rw [if_pos e, if_pos e]; exact RpK.map k h q
  · rw [if_neg e, if_neg e]; exact RpK.snoc k h q
theorem RpK.len : ∀ {ds : List (Key × D)} {vs : List (Key × V)}, RpK K H U ds vs → vs.length = ds.length
  | [], _, h => by simp only [RpK] at h; rw [h]; rfl
  | (k, d) :: ds, _, h => by
    simp only [RpK] at h
    obtain ⟨v, r, rfl, _, h2⟩ := h
    rw [List.length_cons, List.length_cons, RpK.len h2]
theorem RV.dic (R : Rel F U ρ σ H) {r : Rs} {v : V} {ds : List (Key × D)} (h : RV F U σ H r v) (e : r.dat ρ = some (.dic ds)) : ∃ a vs, v = .ref a ∧ Rd H a (.dK vs) ∧ RpK F.K H U ds vs := by
  rcases h.get R e with q | ⟨a, e, vs, q1, q2⟩
  · simp only [Rp] at q
    obtain ⟨a, vs, e, h1, _, h2⟩ := q
    exact ⟨a, vs, e, h1, h2⟩
  · exact ⟨a, vs, e, q1, q2⟩
/-- the dict and the key -/
def wdk (x y : Rs) (ρ : En) (k : List (Key × D) → Key → Prop) : Prop := wd x ρ fun dx => wd y ρ fun dy => match dx with
  | .dic kvs => wo dy.key fun j => k kvs j
  | _ => False
theorem wdk_out (R : Rel F U ρ σ H) {x y : Rs} {v w : V} {k : List (Key × D) → Key → Prop} (hx : RV F U σ H x v) (hy : RV F U σ H y w) (h : wdk x y ρ k) :
    ∃ a kvs vs j, v = .ref a ∧ Rd H a (.dK vs) ∧ RpK F.K H U kvs vs ∧ w = kV j ∧ k kvs j := by
  obtain ⟨dx, ex, h1⟩ := wd_out h
  obtain ⟨dy, ey, h2⟩ := wd_out h1
  clear h h1
  cases dx <;> first | exact h2.elim | skip
  rename_i kvs
  obtain ⟨j, ej, h⟩ := wo_out h2
  obtain ⟨a, vs, rfl, z1, z2⟩ := hx.dic R ex
  have : w = kV j := by
    cases dy <;> first | cases ej | skip
    · rw [hy.int R ey]; rfl
    · rw [hy.str R ey]; rfl
  exact ⟨a, kvs, vs, j, rfl, z1, z2, this, h⟩
/-- d[k] -/
def eDGet (fd fy : T3E) : T3E := fun ρ Q => fd ρ fun x ρ1 => fy ρ1 fun y ρ2 => wdk x y ρ2 fun kvs k => wo (getD' kvs k) fun d => Q (.val d) ρ2
theorem simDGet {td ty : TE} {fd fy : T3E} (h : SimE K td fd) (h' : SimE K ty fy) : SimE K (tDGet td ty) (eDGet fd fy) := by
  intro F U ρ σ H Q3 Q2 e R q k
  refine h F U ρ σ H _ _ e R q fun x v ρ1 H1 R1 s1 q1 h1 => ?_
  refine h' F U ρ1 σ H1 _ _ e R1 h1 fun y w ρ2 H2 R2 s2 q2 h2 => ?_
  obtain ⟨a, kvs, vs, j, rfl, z1, z2, rfl, h2⟩ := wdk_out R2 (q1.pres (s2.pres R1)) q2 h2
  obtain ⟨d, ed, h2⟩ := wo_out h2
  rcases z2.get j with ⟨n, _⟩ | ⟨d', v', n, ev, rv⟩
  · rw [n] at ed; cases ed
  · rw [n] at ed; cases ed
    exact ⟨a, v', rfl, .inl ⟨vs, j, z1, rfl, ev.symm⟩, k (.val d) v' ρ2 H2 R2 (s1.trans s2) rv h2⟩
def fDIn (neg : Bool) (fy fd : T3E) : T3E := fun ρ Q => fy ρ fun y ρ1 => fd ρ1 fun x ρ2 => wdk x y ρ2 fun kvs k => Q (.val (.bl (if neg then !(getD' kvs k).isSome else (getD' kvs k).isSome))) ρ2
theorem simDIn0 (neg : Bool) {td ty : TE} {fd fy : T3E} (h : SimE K td fd) (h' : SimE K ty fy) : SimE K (fun σ H Q => ty σ H fun y H1 => td σ H1 fun x H2 => ∃ a o, x = .ref a ∧ DGet H2 a y o ∧ Q (.bl (if neg then !o.isSome else o.isSome)) H2) (fDIn neg fy fd) := by
  intro F U ρ σ H Q3 Q2 e R q k
  refine h' F U ρ σ H _ _ e R q fun y w ρ1 H1 R1 s1 q1 h1 => ?_
  refine h F U ρ1 σ H1 _ _ e R1 h1 fun x v ρ2 H2 R2 s2 q2 h2 => ?_
  obtain ⟨a, kvs, vs, j, rfl, z1, z2, rfl, h2⟩ := wdk_out R2 q2 (q1.pres (s2.pres R1)) h2
  refine ⟨a, valV vs j, rfl, .inl ⟨vs, j, z1, rfl, rfl⟩, k (.val _) _ ρ2 H2 R2 (s1.trans s2) rvB ?_⟩
  rcases z2.get j with ⟨n, n'⟩ | ⟨d', v', n, ev, rv⟩
  · rw [n] at h2; rw [n']; exact h2
  · rw [n] at h2; rw [ev]; exact h2
theorem simDIn {td ty : TE} {fd fy : T3E} (h : SimE K td fd) (h' : SimE K ty fy) : SimE K (tDIn ty td) (fDIn false fy fd) := simDIn0 false h h'
theorem simDNotIn {td ty : TE} {fd fy : T3E} (h : SimE K td fd) (h' : SimE K ty fy) : SimE K (tDNotIn ty td) (fDIn true fy fd) := simDIn0 true h h'
/-- d.get(k, x) -/
def eDGet2 (fd fy fx : T3E) : T3E := fun ρ Q => fd ρ fun x ρ1 => wn x ρ1 fun dx => match dx with
  | .dic _ => fy ρ1 fun y ρ2 => fx ρ2 fun z ρ3 => match z with
    | .val dz => wdk x y ρ3 fun kvs k => Q (.val ((getD' kvs k).getD dz)) ρ3
    | _ => False
  | _ => False
theorem isD_of (R : Rel F U ρ σ H) {r : Rs} {v : V} {ds : List (Key × D)} (q : RV F U σ H r v) (e : r.datN ρ = some (.dic ds)) : ∃ a, v = .ref a ∧ ∃ vs, Rd H a (.dK vs) := by
  rcases q.getN R e with q | ⟨a, e, vs, q1, q2⟩
  · simp only [Rp] at q
    obtain ⟨a, vs, e, h1, _, h2⟩ := q
    exact ⟨a, e, vs, h1⟩
  · exact ⟨a, e, vs, .inl q1⟩
/-- d[k] = e, d an owned dict -/
def sDPutD (f fd fy : T3E) : T3S := fun E ρ => f ρ fun r ρ1 => fd ρ1 fun x ρ2 => fy ρ2 fun y ρ3 => match r with
  | .val d => wd y ρ3 fun dy => wo dy.key fun j => ww x ρ3 fun dx up => match dx with
    | .dic kvs => kvs.length < sizeLine ∧ E.nx (up (.dic (putD kvs j d)))
    | _ => False
  | _ => False
theorem simDPut {t td ty : TE} {f fd fy : T3E} (h : SimE K t f) (hd : SimE K td fd) (hy : SimE K ty fy) : SimS K (sDPut td ty t) (sDPutD f fd fy) := by
  intro F U ρ σ H D3 D2 e R q k
  refine h F U ρ σ H _ _ e R q fun r v ρ1 H1 R1 s1 q1 h1 => ?_
  refine hd F U ρ1 σ H1 _ _ e R1 h1 fun o vo ρ2 H2 R2 s2 q2 h2 => ?_
  refine hy F U ρ2 σ H2 _ _ e R2 h2 fun i vi ρ3 H3 R3 s3 q3 h3 => ?_
  cases r with
  | sl _ => exact h3.elim
  | bx _ _ _ => exact h3.elim
  | val d =>
    obtain ⟨di, ei, h3⟩ := wd_out h3
    obtain ⟨j, ej, h3⟩ := wo_out h3
    obtain ⟨dl, up, a, rfl, u, t', wr, h3⟩ := ww_out R3 (q2.pres (s3.pres R2)) h3
    cases dl <;> first | exact h3.elim | skip
    rename_i kvs
    obtain ⟨vs, z1, z2⟩ := t'
    have rd : Rp F.K H3 U d v := Rp.pres (s3.pres R2) _ _ (Rp.pres (s2.pres R1) _ _ q1)
    have ek : vi = kV j := by
      cases di <;> first | cases ej | skip
      · rw [q3.int R3 ei]; rfl
      · rw [q3.str R3 ei]; rfl
    have z3 : RpK F.K (upd H3 a (.dK (putK vs j v))) U (putD kvs j d) (putK vs j v) := RpK.pres (pres_w R3 u) _ _ (z2.put j rd)
    obtain ⟨R', S'⟩ := wr (d' := .dic (putD kvs j d)) ⟨_, upd_same, z3⟩
    exact ⟨a, _, rfl, .inl ⟨vs, j, z1, ek, by rw [z2.len]; exact h3.1, rfl⟩, k.nx _ _ _ _ R' h3.2⟩
end
end L3

set_option Elab.async false
set_option linter.all false
set_option maxRecDepth 100000
namespace L3
open PySem PySem.Spec L2

/-! ### calls: how a parameter is handed: shared; read (lent); changed in place; the same with boxes -/
inductive Md where
  | shr | brw | par | pab
  deriving DecidableEq
def Md.isW : Md → Bool
  | .par => true
  | .pab => true
  | _ => false
def Md.sl : Md → D → Sl
  | .shr, d => .shr d
  | .brw, d => .brw d
  | .par, d => .par d
  | .pab, d => .pab d
def noPab : List Md → Bool
  | [] => true
  | .pab :: _ => false
  | _ :: ms => noPab ms
theorem sl_isW {m : Md} {d : D} : (m.sl d).isW = m.isW := by cases m <;> rfl
/-- which addresses a call may change -/
def Wm (ms : List Md) (ds : List D) (vs : List V) : US := fun x => ∃ (i : Nat) (m : Md) (d : D) (v : V), ms[i]? = some m ∧ ds[i]? = some d ∧ vs[i]? = some v ∧ (m.sl d).reg (some v) x
def ArgOk (K : PySem.W.Frag) (H : Hp) (U W : US) : Md → D → V → Prop
  | .shr, d, v => Rp K H U d v
  | .brw, d, v => Rp K H U d v ∨ ∃ a, v = .ref a ∧ TopR K H U d a ∧ ∀ x, d.reg a x → ¬ W x
  | .par, d, v => SlotOk K H U (.par d) (some v)
  | .pab, d, v => SlotOk K H U (.pab d) (some v)
def Apart (ms : List Md) (ds : List D) (vs : List V) : Prop := ∀ (i j : Nat) (m m' : Md) (d d' : D) (v v' : V) (x : Addr), ms[i]? = some m → ms[j]? = some m' → ds[i]? = some d → ds[j]? = some d' → vs[i]? = some v → vs[j]? = some v' → (m.sl d).reg (some v) x → (m'.sl d').reg (some v') x → i = j
structure ArgsOk (K : PySem.W.Frag) (H : Hp) (U : US) (ms : List Md) (ds : List D) (vs : List V) : Prop where
  l1 : ms.length = vs.length
  l2 : ds.length = vs.length
  ok : ∀ (i : Nat) (m : Md) (d : D) (v : V), ms[i]? = some m → ds[i]? = some d → vs[i]? = some v → ArgOk K H U (Wm ms ds vs) m d v
  inj : Apart ms ds vs
  tr : ∀ a, U a → ∃ o, H a = some o
/-- how a call leaves the heap -/
structure After (K : PySem.W.Frag) (H : Hp) (U : US) (ms : List Md) (ds : List D) (vs : List V) (H' : Hp) (U' : US) (ds' : List D) : Prop where
  len : ds'.length = vs.length
  keep : ∀ a o, H a = some o → ¬ Wm ms ds vs a → H' a = some o
  ktr : ∀ a o, H a = some o → ∃ o', H' a = some o'
  shar : ∀ a o, H a = some o → ¬ U a → ¬ U' a
  up : ∀ a, U a → ¬ Wm ms ds vs a → U' a
  tr : ∀ a, U' a → ∃ o, H' a = some o
  par : ∀ (i : Nat) (m : Md) (v : V) (d : D), ms[i]? = some m → m.isW = true → vs[i]? = some v → ds'[i]? = some d → SlotOk K H' U' (m.sl d) (some v)
  reg : ∀ x, Wm ms ds' vs x → Wm ms ds vs x ∨ H x = none
  inj : Apart ms ds' vs
abbrev S3 := List D → (D → List D → Prop) → (D → List D → Prop) → Prop
/-- a def's promise over data, as a promise over the heap -/
def Lift (K : PySem.W.Frag) (ms : List Md) (sp : S3) : Sp := fun vs H Q _ => ∃ (U : US) (ds : List D) (QR QO : D → List D → Prop), ArgsOk K H U ms ds vs ∧ sp ds QR QO ∧
  (∀ v H' U' d ds', After K H U ms ds vs H' U' ds' → Rp K H' U' d v → QR d ds' → Q v H') ∧
  (∀ a H' U' d ds', After K H U ms ds vs H' U' ds' → TopW K H' U' d a → U' a → H a = none → QO d ds' → Q (.ref a) H')

section
variable {F : Fr} {U U2 : US} {ρ ρ' ρ2 : En} {σ σ2 : St} {H H' H2 : Hp} {K : PySem.W.Frag}

/-! ### the callee's side -/
def slots : List Md → List D → En
  | m :: ms, d :: ds => m.sl d :: slots ms ds
  | _, _ => []
/-- n: how many names have no argument -/
def startE (n : Nat) (ms : List Md) (ds : List D) : En := slots ms ds ++ List.replicate n .emp
/-- what the changed parameters hold at the end -/
def fin : List Md → List D → En → Option (List D)
  | [], [], _ => some []
  | .par :: ms, _ :: ds, .par d :: ρ => (fin ms ds ρ).map (d :: ·)
  | .pab :: ms, _ :: ds, .pab d :: ρ => (fin ms ds ρ).map (d :: ·)
  | .shr :: ms, d :: ds, _ :: ρ => (fin ms ds ρ).map (d :: ·)
  | .brw :: ms, d :: ds, _ :: ρ => (fin ms ds ρ).map (d :: ·)
  | _, _, _ => none
def endE (ms : List Md) (ds : List D) (QR QO : D → List D → Prop) : E3 :=
  { nx := fun ρ => wo (fin ms ds ρ) fun ds' => QR .non ds', rt := fun d ρ => wo (fin ms ds ρ) fun ds' => QR d ds', ro := fun d ρ => match noPab ms with
    | true => wo (fin ms ds ρ) fun ds' => QO d ds'
    | false => False }
theorem slots_len : ∀ {ms : List Md} {ds : List D}, ms.length = ds.length → (slots ms ds).length = ds.length
  | [], [], _ => rfl
  | m :: ms, d :: ds, h => by show (slots ms ds).length + 1 = _; rw [slots_len (Nat.succ.inj h)]; rfl
  | [], _ :: _, h => nomatch h
  | _ :: _, [], h => nomatch h
theorem slots_get : ∀ {ms : List Md} {ds : List D} {i : Nat} {s : Sl}, (slots ms ds)[i]? = some s → ∃ m d, ms[i]? = some m ∧ ds[i]? = some d ∧ s = m.sl d
  | [], _, i, s, h => by simp [slots] at h
  | _ :: _, [], i, s, h => by simp [slots] at h
  | m :: ms, d :: ds, 0, s, h => by
    simp [slots] at h
    exact ⟨m, d, rfl, rfl, h.symm⟩
  | m :: ms, d :: ds, i + 1, s, h => by
    have h : (slots ms ds)[i]? = some s := by simpa [slots] using h
    obtain ⟨m', d', h1, h2, h3⟩ := slots_get h
    exact ⟨m', d', by simpa using h1, by simpa using h2, h3⟩
theorem startE_get {n : Nat} {ms : List Md} {ds : List D} (hl : ms.length = ds.length) {i : Nat} {s : Sl} (h : (startE n ms ds)[i]? = some s) : (s = .emp ∧ ds.length ≤ i) ∨ ∃ m d, ms[i]? = some m ∧ ds[i]? = some d ∧ s = m.sl d := by
  unfold startE at h
  by_cases hi : i < (slots ms ds).length
  · rw [List.getElem?_append_left hi] at h
    exact .inr (slots_get h)
  · rw [List.getElem?_append_right (by omega)] at h
    refine .inl ⟨?_, by rw [slots_len hl] at hi; omega⟩
    exact List.eq_of_mem_replicate (List.mem_of_getElem? h)
theorem start_get {N : List Str} {vs : List V} {i : Nat} {o : Option V} (h : (L2.start N vs)[i]? = some o) : (o = none ∧ vs.length ≤ i) ∨ ∃ v, o = some v ∧ vs[i]? = some v := by
  unfold L2.start at h
  by_cases hi : i < (vs.map some).length
  · rw [List.getElem?_append_left hi, List.getElem?_map] at h
    cases e : vs[i]? with
    | none => rw [e] at h; cases h
    | some v => rw [e] at h; exact .inr ⟨v, (Option.some.inj h).symm, rfl⟩
  · rw [List.getElem?_append_right (by omega)] at h
    exact .inl ⟨List.eq_of_mem_replicate (List.mem_of_getElem? h), by rw [List.length_map] at hi; omega⟩
theorem start_arg {N : List Str} {vs : List V} {i : Nat} {v : V} (h : vs[i]? = some v) : (L2.start N vs)[i]? = some (some v) := by
  unfold L2.start
  have hi : i < vs.length := (List.getElem?_eq_some_iff.mp h).1
  rw [List.getElem?_append_left (by rw [List.length_map]; exact hi), List.getElem?_map, h]; rfl
/-- the callee's frame -/
def frE (K : PySem.W.Frag) (H : Hp) (U : US) (ρ : En) (σ : St) : Fr := ⟨K, H, U, Own ρ σ, σ, fun i l => ∃ s : Sl, ρ[i]? = some s ∧ s.lk = some l⟩
theorem start_in {N : List Str} {n : Nat} {ms : List Md} {ds : List D} {vs : List V} (l1 : ms.length = vs.length) (l2 : ds.length = vs.length) {i : Nat} {s : Sl} {o : Option V} (h1 : (startE n ms ds)[i]? = some s) (h2 : (L2.start N vs)[i]? = some o) :
    s = .emp ∨ ∃ m d v, ms[i]? = some m ∧ ds[i]? = some d ∧ vs[i]? = some v ∧ s = m.sl d ∧ o = some v := by
  rcases startE_get (l1.trans l2.symm) h1 with ⟨rfl, _⟩ | ⟨m, d, g1, g2, rfl⟩
  · exact .inl rfl
  · rcases start_get h2 with ⟨_, z⟩ | ⟨v, z, z2⟩
    · have := (List.getElem?_eq_some_iff.mp g2).1
      omega
    · exact .inr ⟨m, d, v, g1, g2, z2, rfl, z⟩
theorem own_start {N : List Str} {n : Nat} {ms : List Md} {ds : List D} {vs : List V} (A : ArgsOk K H U ms ds vs) {a : Addr} (h : Own (startE n ms ds) (L2.start N vs) a) : Wm ms ds vs a := by
  obtain ⟨i, s, o, h1, h2, h3⟩ := h
  rcases start_in A.l1 A.l2 h1 h2 with rfl | ⟨m, d, v, g1, g2, g3, rfl, rfl⟩
  · exact absurd h3 (reg_noW rfl)
  · exact ⟨i, m, d, v, g1, g2, g3, h3⟩
theorem Rel.enter {N : List Str} {n : Nat} {ms : List Md} {ds : List D} {vs : List V} (A : ArgsOk K H U ms ds vs) (hn : N.length = vs.length + n) : Rel (frE K H U (startE n ms ds) (L2.start N vs)) U (startE n ms ds) (L2.start N vs) H := by
  have hl : ms.length = ds.length := A.l1.trans A.l2.symm
  have slot : ∀ (i : Nat) (s : Sl) (o : Option V), (startE n ms ds)[i]? = some s → (L2.start N vs)[i]? = some o → SlotOk K H U s o := fun i s o h1 h2 => by
    rcases start_in A.l1 A.l2 h1 h2 with rfl | ⟨m, d, v, g1, g2, g3, rfl, rfl⟩
    · trivial
    · have z := A.ok i m d v g1 g2 g3
      cases m with
      | shr => exact ⟨v, rfl, z⟩
      | brw => trivial
      | par => exact z
      | pab => exact z
  refine ⟨?_, slot, fun i d o h1 h2 => ?_, fun i j s t o o' x h1 h2 h3 h4 h5 h6 => ?_, A.tr, fun _ _ h _ => h, fun _ o h => ⟨o, h⟩, fun _ _ _ z => z, fun _ h _ => h, fun _ h => .inl h, fun i s l h q => ⟨⟨s, h, q⟩, rfl⟩, fun a h => ?_, fun j d h => ?_, A.tr⟩
  · unfold startE L2.start
    rw [List.length_append, List.length_append, List.length_replicate, List.length_replicate, List.length_map, slots_len hl, A.l2, hn]
    omega
  · rcases start_in A.l1 A.l2 h1 h2 with z | ⟨m, d', v, g1, g2, g3, z, rfl⟩
    · cases z
    · cases m <;> first | cases z | skip
      rcases A.ok i _ _ _ g1 g2 g3 with z3 | ⟨a, ea, t, nW⟩
      · exact .inl ⟨v, rfl, z3⟩
      · exact .inr ⟨a, by rw [ea], t, fun x hx q => nW x hx (own_start A q)⟩
  · rcases start_in A.l1 A.l2 h1 h3 with rfl | ⟨m, d, v, g1, g2, g3, rfl, rfl⟩
    · exact absurd h5 (reg_noW rfl)
    · rcases start_in A.l1 A.l2 h2 h4 with rfl | ⟨m', d', v', k1, k2, k3, rfl, rfl⟩
      · exact absurd h6 (reg_noW rfl)
      · exact A.inj i j m m' d d' v v' x g1 k1 g2 k2 g3 k3 h5 h6
  · obtain ⟨i, s, o, h1, h2, h3⟩ := h
    exact (slot i s o h1 h2).regU h3
  · obtain ⟨s, h1, h2⟩ := h
    rcases startE_get hl h1 with ⟨rfl, _⟩ | ⟨m, d', g1, g2, rfl⟩
    · cases h2
    · cases m <;> first | (cases h2; done) | skip
      cases h2
      have hj : j < vs.length := by
        have := (List.getElem?_eq_some_iff.mp g2).1
        have := A.l2
        omega
      have hv : vs[j]? = some vs[j] := List.getElem?_eq_getElem hj
      rcases A.ok j _ _ _ g1 g2 hv with z | ⟨a, ea, t, _⟩
      · exact .inl ⟨_, start_arg hv, z⟩
      · exact .inr ⟨a, by rw [← ea]; exact start_arg hv, t.some⟩
theorem fin_len : ∀ {ms : List Md} {ds : List D} {ρ : En} {ds' : List D}, fin ms ds ρ = some ds' → ds'.length = ds.length
  | [], [], _, _, h => by cases h; rfl
  | [], _ :: _, _, _, h => by simp [fin] at h
  | m :: ms, [], ρ, _, h => by cases m <;> simp [fin] at h
  | m :: ms, d :: ds, [], _, h => by cases m <;> simp [fin] at h
  | m :: ms, d :: ds, s :: ρ, ds', h => by
    have go : ∀ {d' : D}, (fin ms ds ρ).map (d' :: ·) = some ds' → ds'.length = (d :: ds).length := fun {d'} h => by
      obtain ⟨r, e, rfl⟩ := Option.map_eq_some_iff.mp h
      rw [List.length_cons, List.length_cons, fin_len e]
    cases m with
    | shr => exact go h
    | brw => exact go h
    | par => cases s <;> first | exact go h | (simp [fin] at h)
    | pab => cases s <;> first | exact go h | (simp [fin] at h)
theorem fin_par : ∀ {ms : List Md} {ds : List D} {ρ : En} {ds' : List D} {i : Nat} {m : Md} {d : D}, fin ms ds ρ = some ds' → ms[i]? = some m → m.isW = true → ds'[i]? = some d → ρ[i]? = some (m.sl d)
  | [], _, _, _, i, _, _, h, e, _, _ => by simp at e
  | m :: ms, [], ρ, _, _, _, _, h, _, _, _ => by cases m <;> simp [fin] at h
  | m :: ms, d :: ds, [], _, _, _, _, h, _, _, _ => by cases m <;> simp [fin] at h
  | m :: ms, d :: ds, s :: ρ, ds', 0, m', d', h, e, w, e' => by
    have e : m = m' := by simpa using e
    subst e
    cases m <;> first | (cases w; done) | skip
    all_goals
      cases s <;> first | (simp [fin] at h; done) | skip
      obtain ⟨r, _, rfl⟩ := Option.map_eq_some_iff.mp (show (fin ms ds ρ).map _ = some ds' from h)
      simp at e'
      subst e'
      rfl
  | m :: ms, d :: ds, s :: ρ, ds', i + 1, m', d', h, e, w, e' => by
    have go : ∀ {d0 : D}, (fin ms ds ρ).map (d0 :: ·) = some ds' → (s :: ρ)[i + 1]? = some (m'.sl d') := fun {d0} h => by
      obtain ⟨r, er, rfl⟩ := Option.map_eq_some_iff.mp h
      have := fin_par (i := i) er (by simpa using e) w (by simpa using e')
      simpa using this
    cases m with
    | shr => exact go h
    | brw => exact go h
    | par => cases s <;> first | exact go h | (simp [fin] at h)
    | pab => cases s <;> first | exact go h | (simp [fin] at h)
theorem lk_sl {m : Md} {d : D} (w : m.isW = true) : (m.sl d).lk = some none := by cases m <;> first | rfl | cases w
theorem Rel.leave {N : List Str} {n : Nat} {ms : List Md} {ds ds' : List D} {vs : List V} (A : ArgsOk K H U ms ds vs) {U' : US} (R : Rel (frE K H U (startE n ms ds) (L2.start N vs)) U' ρ σ H') (e : fin ms ds ρ = some ds') : After K H U ms ds vs H' U' ds' := by
  have at_ : ∀ {i : Nat} {m : Md} {d : D} {v : V}, ms[i]? = some m → m.isW = true → vs[i]? = some v → ds'[i]? = some d → ρ[i]? = some (m.sl d) ∧ σ[i]? = some (some v) := fun {i m d v} h1 w h2 h3 => by
    have hp := fin_par e h1 w h3
    obtain ⟨_, el⟩ := R.lock i _ _ hp (lk_sl w)
    exact ⟨hp, el.trans (start_arg h2)⟩
  refine ⟨(fin_len e).trans A.l2, fun a o h n => R.keep a o h fun z => n (own_start A z), fun a o h => R.ktr a o h, fun a o h n => R.shar a o h n, fun a h n => R.up a h fun z => n (own_start A z), R.tr, fun i m v d h1 w h2 h3 => ?_, fun x ⟨i, m, d, v, h1, h2, h3, h4⟩ => ?_, fun i j m m' d d' v v' x h1 h2 h3 h4 h5 h6 h7 h8 => ?_⟩
  · obtain ⟨p1, p2⟩ := at_ h1 w h2 h3
    exact R.slot i _ _ p1 p2
  · obtain ⟨p1, p2⟩ := at_ h1 (sl_isW.symm.trans h4.1) h3 h2
    rcases R.new x ⟨i, _, _, p1, p2, h4⟩ with z | z
    · exact .inl (own_start A z)
    · exact .inr z
  · obtain ⟨p1, p2⟩ := at_ h1 (sl_isW.symm.trans h7.1) h5 h3
    obtain ⟨p3, p4⟩ := at_ h2 (sl_isW.symm.trans h8.1) h6 h4
    exact R.inj i j _ _ _ _ x p1 p3 p2 p4 h7 h8
theorem noPab_at : ∀ {ms : List Md} {i : Nat}, noPab ms = true → ms[i]? = some Md.pab → False
  | [], i, _, e => by simp at e
  | m :: ms, 0, h, e => by simp at e; subst e; cases h
  | m :: ms, i + 1, h, e => by
    refine noPab_at (ms := ms) (i := i) ?_ (by simpa using e)
    cases m <;> first | exact h | cases h
/-- a def by its body, over data -/
theorem body3 {t2 : TS} {t3 : T3S} {ms : List Md} {sp : S3} {N : List Str} {n : Nat} (hs : SimS K t2 t3) (hn : N.length = ms.length + n) (hb : ∀ ds QR QO, sp ds QR QO → ds.length = ms.length → t3 (endE ms ds QR QO) (startE n ms ds)) :
    ∀ vs H Q E, Lift K ms sp vs H Q E → t2 { nx := fun _ H' => Q .non H', rt := Q } (L2.start N vs) H := by
  intro vs H Q E ⟨U, ds, QR, QO, A, h, h1, h2⟩
  have R := Rel.enter (N := N) (n := n) A (by rw [hn, A.l1])
  refine hs _ U _ _ H (endE ms ds QR QO) _ rfl R (hb ds QR QO h (A.l2.trans A.l1.symm)) ⟨fun U' ρ' σ' H' R' q => ?_, fun _ _ _ _ _ q => q.elim, fun _ _ _ _ _ q => q.elim, fun U' ρ' σ' H' d v R' rp q => ?_, fun U' ρ' σ' H' d a i R' e1 e2 q => ?_, fun U' ρ' σ' H' d a R' f q => ?_⟩
  · obtain ⟨ds', e, q⟩ := wo_out q
    exact h1 .non H' U' .non ds' (R'.leave A e) rp_non q
  · obtain ⟨ds', e, q⟩ := wo_out q
    exact h1 v H' U' d ds' (R'.leave A e) rp q
  · have q : (match noPab ms with | true => wo (fin ms ds ρ') fun ds' => QO d ds' | false => False) := q
    cases np : noPab ms with
    | false => rw [np] at q; exact q.elim
    | true =>
      rw [np] at q
      obtain ⟨ds', e, q⟩ := wo_out q
      obtain ⟨b, eb, u, t⟩ := R'.slot i _ _ e1 e2
      cases eb
      refine h2 a H' U' d ds' (R'.leave A e) t u ?_ q
      rcases R'.new a (Own.root e1 rfl e2) with z | z
      · exfalso
        obtain ⟨j, m, dj, v, k1, k2, k3, k4⟩ := own_start A z
        have w : m.isW = true := sl_isW.symm.trans k4.1
        cases m <;> first | (cases w; done) | exact noPab_at np k1 | skip
        -- the changed parameter still holds a; an owned slot with the same address would be that slot
        have hv : v = .ref a := by
          rcases k4.2 with z | z
          · cases z; rfl
          · cases z
        subst hv
        have hl : j < ds'.length := by
          have := (List.getElem?_eq_some_iff.mp k2).1
          rw [fin_len e]; exact this
        have hp := fin_par e k1 rfl (List.getElem?_eq_getElem hl)
        obtain ⟨_, el⟩ := R'.lock j _ _ hp rfl
        have el : σ'[j]? = some (some (.ref a)) := el.trans (start_arg k3)
        have := R'.inj i j _ _ _ _ a e1 hp e2 el ⟨rfl, .inl rfl⟩ ⟨rfl, .inl rfl⟩
        subst this
        rw [e1] at hp; cases hp
      · exact z
  · have q : (match noPab ms with | true => wo (fin ms ds ρ') fun ds' => QO d ds' | false => False) := q
    cases np : noPab ms with
    | false => rw [np] at q; exact q.elim
    | true =>
      rw [np] at q
      obtain ⟨ds', e, q⟩ := wo_out q
      exact h2 a H' U' d ds' (R'.leave A e) f.top f.u f.new q

/-! ### the caller's side -/
def argD : Md → Rs → En → Option D
  | .shr, .val d, _ => some d
  | .brw, .val d, _ => some d
  | .brw, .sl i, ρ => (Rs.sl i).dat ρ
  | .par, .sl i, ρ => match ρ[i]? with
    | some (.own d) => some d
    | some (.par d) => some d
    | _ => none
  | .pab, .sl i, ρ => match ρ[i]? with
    | some (.owb d) => some d
    | some (.pab d) => some d
    | _ => none
  | _, _, _ => none
def argsD : List Md → List Rs → En → Option (List D)
  | [], [], _ => some []
  | m :: ms, r :: rs, ρ => match argD m r ρ, argsD ms rs ρ with
    | some d, some ds => some (d :: ds)
    | _, _ => none
  | _, _, _ => none
/-- the slots that are changed; the others that are handed -/
def parN : List Md → List Rs → List Nat
  | .par :: ms, .sl i :: rs => i :: parN ms rs
  | .pab :: ms, .sl i :: rs => i :: parN ms rs
  | _ :: ms, _ :: rs => parN ms rs
  | _, _ => []
def brwN : List Md → List Rs → List Nat
  | .brw :: ms, .sl i :: rs => i :: brwN ms rs
  | _ :: ms, _ :: rs => brwN ms rs
  | _, _ => []
def apart (ms : List Md) (rs : List Rs) : Bool := decide (parN ms rs).Nodup && (parN ms rs).all fun i => !(brwN ms rs).contains i
def updI (ρ : En) (i : Nat) (d : D) : En := match ρ[i]? with
  | some (.own _) => ρ.set i (.own d)
  | some (.par _) => ρ.set i (.par d)
  | some (.owb _) => ρ.set i (.owb d)
  | some (.pab _) => ρ.set i (.pab d)
  | _ => ρ
/-- after the call -/
def updE : List Md → List Rs → List D → En → En
  | .par :: ms, .sl i :: rs, d :: ds, ρ => updE ms rs ds (updI ρ i d)
  | .pab :: ms, .sl i :: rs, d :: ds, ρ => updE ms rs ds (updI ρ i d)
  | _ :: ms, _ :: rs, _ :: ds, ρ => updE ms rs ds ρ
  | _, _, _, ρ => ρ
theorem argsD_out : ∀ {ms : List Md} {rs : List Rs} {ds : List D}, argsD ms rs ρ = some ds → ms.length = rs.length ∧ ds.length = rs.length ∧ ∀ (i : Nat) (m : Md) (d : D) (r : Rs), ms[i]? = some m → ds[i]? = some d → rs[i]? = some r → argD m r ρ = some d
  | [], [], ds, h => by cases h; exact ⟨rfl, rfl, fun i _ _ _ h => by simp at h⟩
  | [], _ :: _, _, h => by simp [argsD] at h
  | _ :: _, [], _, h => by simp [argsD] at h
  | m :: ms, r :: rs, ds, h => by
    unfold argsD at h
    split at h
    · rename_i d ds0 e1 e2
      cases h
      obtain ⟨l1, l2, g⟩ := argsD_out e2
      refine ⟨by simp [l1], by simp [l2], fun i m' d' r' h1 h2 h3 => ?_⟩
      cases i with
      | zero => simp at h1 h2 h3; subst h1; subst h2; subst h3; exact e1
      | succ i => exact g i m' d' r' (by simpa using h1) (by simpa using h2) (by simpa using h3)
    · cases h
theorem RVs.len {rs : List Rs} {vs : List V} (h : RVs F U σ H rs vs) : rs.length = vs.length := by
  induction h with
  | nil => rfl
  | cons _ _ ih => rw [List.length_cons, List.length_cons, ih]
theorem RVs.at {rs : List Rs} {vs : List V} (h : RVs F U σ H rs vs) : ∀ {i : Nat} {v : V}, vs[i]? = some v → ∃ r, rs[i]? = some r ∧ RV F U σ H r v := by
  induction h with
  | nil => intro i v e; simp at e
  | cons h _ ih =>
    intro i v e
    cases i with
    | zero => simp at e; subst e; exact ⟨_, rfl, h⟩
    | succ i => obtain ⟨r, e1, e2⟩ := ih (by simpa using e); exact ⟨r, by simpa using e1, e2⟩
theorem parN_mem : ∀ {ms : List Md} {rs : List Rs} {i j : Nat} {m : Md}, ms[i]? = some m → m.isW = true → rs[i]? = some (Rs.sl j) → j ∈ parN ms rs
  | [], _, i, j, _, h, _, _ => by simp at h
  | _ :: _, [], i, j, _, _, _, h => by simp at h
  | m :: ms, r :: rs, 0, j, m', h, w, h' => by simp at h h'; subst h; subst h'; cases m <;> first | (cases w; done) | simp [parN]
  | m :: ms, r :: rs, i + 1, j, m', h, w, h' => by
    have z := parN_mem (ms := ms) (rs := rs) (i := i) (by simpa using h) w (by simpa using h')
    cases m <;> cases r <;> simp [parN, z]
theorem parN_ex : ∀ {ms : List Md} {rs : List Rs} {j : Nat}, j ∈ parN ms rs → ∃ (i : Nat) (m : Md), ms[i]? = some m ∧ m.isW = true ∧ rs[i]? = some (Rs.sl j)
  | [], _, j, h => by simp [parN] at h
  | m :: ms, [], j, h => by cases m <;> simp [parN] at h
  | m :: ms, r :: rs, j, h => by
    have go : j ∈ parN ms rs → ∃ (i : Nat) (m' : Md), (m :: ms)[i]? = some m' ∧ m'.isW = true ∧ (r :: rs)[i]? = some (Rs.sl j) := fun h => by
      obtain ⟨i, m', h1, h2, h3⟩ := parN_ex h
      exact ⟨i + 1, m', by simpa using h1, h2, by simpa using h3⟩
    have hd : ∀ {k : Nat}, m.isW = true → r = .sl k → j ∈ k :: parN ms rs → ∃ (i : Nat) (m' : Md), (m :: ms)[i]? = some m' ∧ m'.isW = true ∧ (r :: rs)[i]? = some (Rs.sl j) := fun {k} w er h => by
      rcases List.mem_cons.mp h with e | h
      · subst e; subst er; exact ⟨0, m, rfl, w, rfl⟩
      · exact go h
    cases m <;> cases r <;> first | exact go h | exact hd rfl rfl h
theorem brwN_mem : ∀ {ms : List Md} {rs : List Rs} {i j : Nat}, ms[i]? = some Md.brw → rs[i]? = some (Rs.sl j) → j ∈ brwN ms rs
  | [], _, i, j, h, _ => by simp at h
  | _ :: _, [], i, j, _, h => by simp at h
  | m :: ms, r :: rs, 0, j, h, h' => by simp at h h'; subst h; subst h'; simp [brwN]
  | m :: ms, r :: rs, i + 1, j, h, h' => by
    have z := brwN_mem (ms := ms) (rs := rs) (i := i) (by simpa using h) (by simpa using h')
    cases m <;> cases r <;> simp [brwN, z]
theorem parN_tail {m : Md} {r : Rs} {ms : List Md} {rs : List Rs} (n : (parN (m :: ms) (r :: rs)).Nodup) : (parN ms rs).Nodup := by
  cases m <;> cases r <;> first | exact n | exact (List.nodup_cons.mp n).2
theorem parN_head {m : Md} {j : Nat} {ms : List Md} {rs : List Rs} (w : m.isW = true) : parN (m :: ms) (.sl j :: rs) = j :: parN ms rs := by
  cases m <;> first | rfl | cases w
theorem parN_inj : ∀ {ms : List Md} {rs : List Rs} {i j k : Nat} {m m' : Md}, (parN ms rs).Nodup → ms[i]? = some m → ms[j]? = some m' → m.isW = true → m'.isW = true → rs[i]? = some (Rs.sl k) → rs[j]? = some (Rs.sl k) → i = j
  | [], _, i, j, k, _, _, _, h, _, _, _, _, _ => by simp at h
  | _ :: _, [], i, j, k, _, _, _, _, _, _, _, h, _ => by simp at h
  | m :: ms, r :: rs, 0, 0, k, _, _, _, _, _, _, _, _, _ => rfl
  | m :: ms, r :: rs, 0, j + 1, k, _, _, n, h1, h2, w1, w2, h3, h4 => by
    simp at h1 h3; subst h1; subst h3
    have z := parN_mem (ms := ms) (rs := rs) (i := j) (by simpa using h2) w2 (by simpa using h4)
    rw [parN_head w1] at n
    exact absurd z (List.nodup_cons.mp n).1
  | m :: ms, r :: rs, i + 1, 0, k, _, _, n, h1, h2, w1, w2, h3, h4 => by
    simp at h2 h4; subst h2; subst h4
    have z := parN_mem (ms := ms) (rs := rs) (i := i) (by simpa using h1) w1 (by simpa using h3)
    rw [parN_head w2] at n
    exact absurd z (List.nodup_cons.mp n).1
  | m :: ms, r :: rs, i + 1, j + 1, k, _, _, n, h1, h2, w1, w2, h3, h4 =>
    congrArg (· + 1) (parN_inj (i := i) (j := j) (k := k) (parN_tail n) (by simpa using h1) (by simpa using h2) w1 w2 (by simpa using h3) (by simpa using h4))
theorem apart_out {ms : List Md} {rs : List Rs} (h : apart ms rs = true) : (parN ms rs).Nodup ∧ ∀ i, i ∈ parN ms rs → i ∉ brwN ms rs := by
  unfold apart at h
  rw [Bool.and_eq_true, decide_eq_true_eq, List.all_eq_true] at h
  exact ⟨h.1, fun i hi => by simpa using h.2 i hi⟩
/-- a written slot and the mode in which it is handed -/
structure Kin (m : Md) (s : Sl) : Prop where
  w : s.isW = true
  mw : m.isW = true
  ok : ∀ {K : PySem.W.Frag} {H : Hp} {U : US} {d : D} {o : Option V}, SlotOk K H U (m.sl d) o → SlotOk K H U (s.upd d) o
  ko : ∀ {K : PySem.W.Frag} {H : Hp} {U : US} {d : D} {o : Option V}, SlotOk K H U (s.upd d) o → SlotOk K H U (m.sl d) o
  bx : ∀ d, (m.sl d).bxs = (s.upd d).bxs
theorem Kin.reg {m : Md} {s : Sl} (k : Kin m s) {d : D} {o : Option V} {x : Addr} : (m.sl d).reg o x ↔ (s.upd d).reg o x := by
  unfold Sl.reg
  rw [k.bx, isW_upd, k.w, sl_isW, k.mw]
theorem upd_dat {s : Sl} {d : D} (w : s.isW = true) (h : s.dat = some d) : s.upd d = s := by cases s <;> first | (cases w; done) | (cases h; rfl)
/-- a changed argument: its slot -/
theorem par_slot (R : Rel F U ρ σ H) {m : Md} {r : Rs} {v : V} {d : D} (mw : m.isW = true) (e : argD m r ρ = some d) (q : RV F U σ H r v) : ∃ i s, r = .sl i ∧ ρ[i]? = some s ∧ s.dat = some d ∧ σ[i]? = some (some v) ∧ Kin m s := by
  cases m <;> first | (cases mw; done) | skip
  · cases r with
    | sl i =>
      have e : (match ρ[i]? with | some (.own d) => some d | some (.par d) => some d | _ => none) = some d := e
      cases hs : ρ[i]? with
      | none => rw [hs] at e; cases e
      | some s =>
        rw [hs] at e
        cases s with
        | own d => cases e; exact ⟨i, _, rfl, hs, rfl, q, rfl, rfl, fun h => h, fun h => h, fun _ => rfl⟩
        | par d => cases e; exact ⟨i, _, rfl, hs, rfl, q, rfl, rfl, fun h => h, fun h => h, fun _ => rfl⟩
        | _ => cases e
    | _ => cases e
  · cases r with
    | sl i =>
      have e : (match ρ[i]? with | some (.owb d) => some d | some (.pab d) => some d | _ => none) = some d := e
      cases hs : ρ[i]? with
      | none => rw [hs] at e; cases e
      | some s =>
        rw [hs] at e
        cases s with
        | owb d => cases e; exact ⟨i, _, rfl, hs, rfl, q, rfl, rfl, fun h => h, fun h => h, fun _ => rfl⟩
        | pab d => cases e; exact ⟨i, _, rfl, hs, rfl, q, rfl, rfl, fun h => h, fun h => h, fun _ => rfl⟩
        | _ => cases e
    | _ => cases e
theorem args_ok (R : Rel F U ρ σ H) {ms : List Md} {rs : List Rs} {vs : List V} {ds : List D} (q : RVs F U σ H rs vs) (e : argsD ms rs ρ = some ds) (ap : apart ms rs = true) :
    ArgsOk F.K H U ms ds vs ∧ ∀ a, Wm ms ds vs a → Own ρ σ a := by
  obtain ⟨l1, l2, g⟩ := argsD_out e
  obtain ⟨a1, a2⟩ := apart_out ap
  have parAt : ∀ {i : Nat} {m : Md} {d : D} {v : V}, ms[i]? = some m → m.isW = true → ds[i]? = some d → vs[i]? = some v → ∃ j s, rs[i]? = some (Rs.sl j) ∧ ρ[j]? = some s ∧ s.dat = some d ∧ σ[j]? = some (some v) ∧ Kin m s := fun {i m d v} h1 w h2 h3 => by
    obtain ⟨r, er, q1⟩ := q.at h3
    obtain ⟨j, s, rfl, z⟩ := par_slot R w (g i _ d r h1 h2 er) q1
    exact ⟨j, s, er, z⟩
  have own : ∀ a, Wm ms ds vs a → Own ρ σ a := fun a ⟨i, m, d, v, h1, h2, h3, h4⟩ => by
    obtain ⟨j, s, _, z1, z2, z3, k⟩ := parAt h1 (sl_isW.symm.trans h4.1) h2 h3
    have h4 := k.reg.mp h4
    rw [upd_dat k.w z2] at h4
    exact ⟨j, s, _, z1, z3, h4⟩
  refine ⟨⟨l1.trans q.len, l2.trans q.len, fun i m d v h1 h2 h3 => ?_, fun i j m m' d d' v v' x h1 h2 h3 h4 h5 h6 h7 h8 => ?_, R.tr⟩, own⟩
  · obtain ⟨r, er, q1⟩ := q.at h3
    have z := g i m d r h1 h2 er
    have wr : m.isW = true → SlotOk F.K H U (m.sl d) (some v) := fun w => by
      obtain ⟨j, s, rfl, z1, z2, z3, k⟩ := par_slot R w z q1
      have := R.slot j s _ z1 z3
      rw [← upd_dat k.w z2] at this
      exact k.ko this
    cases m with
    | shr =>
      cases r with
      | val d' => cases z; exact q1
      | _ => cases z
    | par => exact wr rfl
    | pab => exact wr rfl
    | brw =>
      cases r with
      | val d' => cases z; exact .inl q1
      | bx i f b => cases z
      | sl j =>
        have z : (Rs.sl j).dat ρ = some d := z
        rcases q1.get R z with w | ⟨a, rfl, t⟩
        · exact .inl w
        · have q1 : σ[j]? = some (some (.ref a)) := q1
          -- the lent slot: shared data, or an address that no changed slot holds
          have z : (match ρ[j]? with | some s => s.dat | none => none) = some d := z
          cases hs : ρ[j]? with
          | none => rw [hs] at z; cases z
          | some s =>
            rw [hs] at z
            have z : s.dat = some d := z
            cases w : s.isW with
            | true =>
              refine .inr ⟨a, rfl, t, fun x hx ⟨i', m', d', v', k1, k2, k3, k4⟩ => ?_⟩
              obtain ⟨j', s', y1, y2, y3, y4, k⟩ := parAt k1 (sl_isW.symm.trans k4.1) k2 k3
              have k4 := k.reg.mp k4
              rw [upd_dat k.w y3] at k4
              have := R.inj j j' _ _ _ _ x hs y2 q1 y4 (dat_reg w z (R.slot j s _ hs q1) hx) k4
              subst this
              exact a2 j (parN_mem k1 k.mw y1) (brwN_mem h1 er)
            | false =>
              cases s <;> first | (cases w; done) | skip
              · cases z
              · cases z
                obtain ⟨v', e', w⟩ := R.slot j _ _ hs q1
                cases e'; exact .inl w
              · cases z
                rcases R.bor j d _ hs q1 with ⟨v', e', w⟩ | ⟨b, e', t', no⟩
                · cases e'; exact .inl w
                · cases e'; exact .inr ⟨a, rfl, t', fun x hx z => no x hx (own x z)⟩
  · obtain ⟨j1, s1, k1, k2, k3, k4, c1⟩ := parAt h1 (sl_isW.symm.trans h7.1) h3 h5
    obtain ⟨j2, s2, k5, k6, k7, k8, c2⟩ := parAt h2 (sl_isW.symm.trans h8.1) h4 h6
    have h7 := c1.reg.mp h7
    have h8 := c2.reg.mp h8
    rw [upd_dat c1.w k3] at h7
    rw [upd_dat c2.w k7] at h8
    have := R.inj j1 j2 s1 s2 _ _ x k2 k6 k4 k8 h7 h8
    subst this
    exact parN_inj a1 h1 h2 c1.mw c2.mw k1 k5
/-- what the slots are after the call -/
theorem updI_get {d : D} {k j : Nat} : (updI ρ k d)[j]? = if k = j then (ρ[j]?).map (fun s => if s.isW = true then s.upd d else s) else ρ[j]? := by
  by_cases e : k = j
  · subst e
    rw [if_pos rfl]
    unfold updI
    cases h : ρ[k]? with
    | none => simp [h]
    | some s =>
      have hk : k < ρ.length := (List.getElem?_eq_some_iff.mp h).1
      cases s <;> first | (simp [hk, Sl.isW, Sl.upd]; done) | (simp only [h]; rfl)
  · rw [if_neg e]
    unfold updI
    cases h : ρ[k]? with
    | none => rfl
    | some s => cases s <;> first | rfl | exact List.getElem?_set_ne e
theorem updE_no : ∀ {ms : List Md} {rs : List Rs} {ds : List D} {ρ : En} {j : Nat}, j ∉ parN ms rs → (updE ms rs ds ρ)[j]? = ρ[j]?
  | [], _, _, _, _, _ => by simp [updE]
  | _ :: _, [], _, _, _, _ => by simp [updE]
  | m :: ms, r :: rs, [], ρ, j, _ => by cases m <;> cases r <;> simp [updE]
  | m :: ms, r :: rs, d :: ds, ρ, j, h => by
    have wr : ∀ {k : Nat}, parN (m :: ms) (r :: rs) = k :: parN ms rs → updE (m :: ms) (r :: rs) (d :: ds) ρ = updE ms rs ds (updI ρ k d) → (updE (m :: ms) (r :: rs) (d :: ds) ρ)[j]? = ρ[j]? := fun {k} e1 e2 => by
      rw [e1] at h
      rw [e2, updE_no (ms := ms) fun z => h (List.mem_cons_of_mem _ z), updI_get, if_neg fun z : k = j => h (by rw [z]; exact List.mem_cons_self ..)]
    cases m <;> cases r <;> first | exact updE_no (ms := ms) h | exact wr rfl rfl
theorem updE_yes : ∀ {ms : List Md} {rs : List Rs} {ds : List D} {ρ : En} {i j : Nat} {m : Md} {d : D}, (parN ms rs).Nodup → ms[i]? = some m → m.isW = true → rs[i]? = some (Rs.sl j) → ds[i]? = some d → (updE ms rs ds ρ)[j]? = (ρ[j]?).map (fun s => if s.isW = true then s.upd d else s)
  | [], _, _, _, i, _, _, _, _, h, _, _, _ => by simp at h
  | _ :: _, [], _, _, i, _, _, _, _, _, _, h, _ => by simp at h
  | _ :: _, _ :: _, [], _, i, _, _, _, _, _, _, _, h => by simp at h
  | m :: ms, r :: rs, d :: ds, ρ, 0, j, m', d', n, h1, w, h2, h3 => by
    simp at h1 h2 h3
    subst h1; subst h2; subst h3
    rw [parN_head w] at n
    have e : updE (m :: ms) (.sl j :: rs) (d :: ds) ρ = updE ms rs ds (updI ρ j d) := by cases m <;> first | rfl | cases w
    rw [e, updE_no (List.nodup_cons.mp n).1, updI_get, if_pos rfl]
  | m :: ms, r :: rs, d :: ds, ρ, i + 1, j, m', d', n, h1, w, h2, h3 => by
    have ih : ∀ ρ', (updE ms rs ds ρ')[j]? = (ρ'[j]?).map (fun s => if s.isW = true then s.upd d' else s) := fun ρ' =>
      updE_yes (parN_tail n) (by simpa using h1) w (by simpa using h2) (by simpa using h3)
    have wr : ∀ {k : Nat}, parN (m :: ms) (r :: rs) = k :: parN ms rs → updE (m :: ms) (r :: rs) (d :: ds) ρ = updE ms rs ds (updI ρ k d) → (updE (m :: ms) (r :: rs) (d :: ds) ρ)[j]? = (ρ[j]?).map (fun s => if s.isW = true then s.upd d' else s) := fun {k} e1 e2 => by
      rw [e1] at n
      have hj : j ∈ parN ms rs := parN_mem (ms := ms) (i := i) (by simpa using h1) w (by simpa using h2)
      rw [e2, ih, updI_get, if_neg fun z : k = j => (List.nodup_cons.mp n).1 (by rw [z]; exact hj)]
    cases m <;> cases r <;> first | exact ih ρ | exact wr rfl rfl
theorem updI_len {k : Nat} {d : D} : (updI ρ k d).length = ρ.length := by
  unfold updI
  split <;> simp
theorem updE_len : ∀ {ms : List Md} {rs : List Rs} {ds : List D} {ρ : En}, (updE ms rs ds ρ).length = ρ.length
  | [], _, _, _ => by simp [updE]
  | _ :: _, [], _, _ => by simp [updE]
  | m :: ms, r :: rs, [], _ => by cases m <;> cases r <;> simp [updE]
  | m :: ms, r :: rs, d :: ds, ρ => by
    cases m <;> cases r <;> first | exact updE_len (ms := ms) | exact (updE_len (ms := ms)).trans updI_len
/-- the relation after a call -/
theorem Rel.after (R : Rel F U ρ σ H) {ms : List Md} {rs : List Rs} {vs : List V} {ds ds' : List D} {U' : US} (q : RVs F U σ H rs vs) (e : argsD ms rs ρ = some ds) (ap : apart ms rs = true) (A : After F.K H U ms ds vs H' U' ds') :
    Rel F U' (updE ms rs ds' ρ) σ H' ∧ (∀ a o, H a = some o → ¬ Own ρ σ a → H' a = some o) ∧ (∀ a, Own (updE ms rs ds' ρ) σ a → Own ρ σ a ∨ H a = none) := by
  obtain ⟨AO, own⟩ := args_ok R q e ap
  obtain ⟨l1, l2, g⟩ := argsD_out e
  obtain ⟨a1, a2⟩ := apart_out ap
  have hl : ds'.length = rs.length := A.len.trans q.len.symm
  have p : Pres H U H' U' := fun a o h n => ⟨A.keep a o h fun w => n (R.ownU (own a w)), A.shar a o h n⟩
  have vAt : ∀ {i : Nat} {r : Rs}, rs[i]? = some r → ∃ v, vs[i]? = some v ∧ RV F U σ H r v := fun {i r} h => by
    have : i < vs.length := by have := (List.getElem?_eq_some_iff.mp h).1; rw [← q.len]; exact this
    have hv : vs[i]? = some vs[i] := List.getElem?_eq_getElem this
    obtain ⟨r', er, q1⟩ := q.at hv
    rw [h] at er; cases er
    exact ⟨_, hv, q1⟩
  -- a slot afterwards: as it was, off what the call may change; or written
  have gt : ∀ {j : Nat} {s' : Sl} {o : Option V}, (updE ms rs ds' ρ)[j]? = some s' → σ[j]? = some o → (ρ[j]? = some s' ∧ ∀ x, s'.reg o x → ¬ Wm ms ds vs x) ∨
      ∃ (i : Nat) (m : Md) (d : D) (s : Sl) (v : V), ms[i]? = some m ∧ ds'[i]? = some d ∧ vs[i]? = some v ∧ rs[i]? = some (.sl j) ∧ ρ[j]? = some s ∧ Kin m s ∧ s' = s.upd d ∧ o = some v := fun {j s' o} h ho => by
    by_cases hj : j ∈ parN ms rs
    · obtain ⟨i, m, h1, w, h2⟩ := parN_ex hj
      have hi : i < ds'.length := by have := (List.getElem?_eq_some_iff.mp h2).1; omega
      obtain ⟨v, hv, q1⟩ := vAt h2
      have hd : i < ds.length := by have := (List.getElem?_eq_some_iff.mp h2).1; omega
      obtain ⟨j', s, ej, z1, z2, z3, k⟩ := par_slot R w (g i m _ _ h1 (List.getElem?_eq_getElem hd) h2) q1
      cases ej
      rw [updE_yes a1 h1 w h2 (List.getElem?_eq_getElem hi), z1] at h
      have h : some (if s.isW = true then s.upd ds'[i] else s) = some s' := h
      rw [if_pos k.w] at h
      have e3 : o = some v := by rw [z3] at ho; exact (Option.some.inj ho).symm
      exact .inr ⟨i, m, _, s, v, h1, List.getElem?_eq_getElem hi, hv, h2, z1, k, (Option.some.inj h).symm, e3⟩
    · rw [updE_no hj] at h
      refine .inl ⟨h, fun x hx ⟨i, m, d, v, k1, k2, k3, k4⟩ => ?_⟩
      obtain ⟨r, er, q1⟩ := q.at k3
      have w := sl_isW.symm.trans k4.1
      obtain ⟨j', s, rfl, z1, z2, z3, k⟩ := par_slot R w (g i m d r k1 k2 er) q1
      have k4 := k.reg.mp k4
      rw [upd_dat k.w z2] at k4
      have := R.inj j j' _ _ _ _ x h z1 ho z3 hx k4
      subst this
      exact hj (parN_mem k1 w er)
  have wreg : ∀ {i : Nat} {m : Md} {d : D} {s : Sl} {v : V} {x : Addr}, ms[i]? = some m → ds'[i]? = some d → vs[i]? = some v → Kin m s → (s.upd d).reg (some v) x → Wm ms ds' vs x := fun {i m d s v x} h1 h2 h3 k h4 => ⟨i, m, d, v, h1, h2, h3, k.reg.mpr h4⟩
  have own' : ∀ a, Own (updE ms rs ds' ρ) σ a → Own ρ σ a ∨ H a = none := fun a ⟨j, s', o, h1, h2, h3⟩ => by
    rcases gt h1 h2 with ⟨z, _⟩ | ⟨i, m, d, s, v, k1, k2, k3, _, k4, k, rfl, rfl⟩
    · exact .inl ⟨j, s', o, z, h2, h3⟩
    · exact (A.reg a (wreg k1 k2 k3 k h3)).imp (own a) id
  refine ⟨⟨by rw [updE_len]; exact R.len, fun j s' o h1 h2 => ?_, fun j d o h1 h2 => ?_, fun i j s t o o' x h1 h2 h3 h4 h5 h6 => ?_, A.tr, fun a o h n => ?_, fun a o h => ?_, fun a o h n => ?_, fun a h n => A.up a (R.up a h n) fun w => n (R.own0 (own a w) h), fun a h => ?_, fun i s l h1 h2 => ?_, R.wu, R.b0, R.u0⟩, fun a o h n => A.keep a o h fun w => n (own a w), own'⟩
  · rcases gt h1 h2 with ⟨z, zn⟩ | ⟨i, m, d, s, v, k1, k2, k3, _, k4, k, rfl, rfl⟩
    · exact (R.slot j s' o z h2).pres p fun x hx u => ⟨A.up x u (zn x hx), fun o h => A.keep x o h (zn x hx)⟩
    · exact k.ok (A.par i m v d k1 k.mw k3 k2)
  · rcases gt h1 h2 with ⟨z, zn⟩ | ⟨i, m, d', s, v, k1, k2, k3, _, k4, k, e', rfl⟩
    · rcases R.bor j d o z h2 with ⟨v, e1, w⟩ | ⟨b, e1, w, no⟩
      · exact .inl ⟨v, e1, Rp.pres p d v w⟩
      · refine .inr ⟨b, e1, w.pres p fun x hx o h => A.keep x o h fun w => no x hx (own x w), fun x hx z => ?_⟩
        rcases own' x z with z | z
        · exact no x hx z
        · obtain ⟨o, ho⟩ := w.some x hx
          rw [z] at ho; cases ho
    · have := k.w
      rw [← isW_upd (s := s) (d' := d'), ← e'] at this; cases this
  · rcases gt h1 h3 with ⟨z, zn⟩ | ⟨i1, m1, d1, s1, v1, k1, k2, k3, c1, k4, k, rfl, rfl⟩
    · rcases gt h2 h4 with ⟨z', zn'⟩ | ⟨i2, m2, d2, s2, v2, l1, l2, l3, c2, l4, l, rfl, rfl⟩
      · exact R.inj i j s t o o' x z z' h3 h4 h5 h6
      · exfalso
        rcases A.reg x (wreg l1 l2 l3 l h6) with w | w
        · exact zn x h5 w
        · obtain ⟨o, ho⟩ := R.tr x (R.ownU ⟨i, s, o, z, h3, h5⟩)
          rw [w] at ho; cases ho
    · rcases gt h2 h4 with ⟨z', zn'⟩ | ⟨i2, m2, d2, s2, v2, l1, l2, l3, c2, l4, l, rfl, rfl⟩
      · exfalso
        rcases A.reg x (wreg k1 k2 k3 k h5) with w | w
        · exact zn' x h6 w
        · obtain ⟨o, ho⟩ := R.tr x (R.ownU ⟨j, t, o', z', h4, h6⟩)
          rw [w] at ho; cases ho
      · have := A.inj i1 i2 m1 m2 d1 d2 v1 v2 x k1 l1 k2 l2 k3 l3 (k.reg.mpr h5) (l.reg.mpr h6)
        subst this
        rw [c1] at c2
        cases c2; rfl
  · refine A.keep a o (R.keep a o h n) fun w => ?_
    rcases R.new a (own a w) with z | z
    · exact n z
    · rw [z] at h; cases h
  · obtain ⟨o', h'⟩ := R.ktr a o h
    exact A.ktr a o' h'
  · obtain ⟨o', h'⟩ := R.ktr a o h
    exact A.shar a o' h' (R.shar a o h n)
  · rcases own' a h with z | z
    · exact R.new a z
    · refine .inr ?_
      cases eh : F.H0 a with
      | none => rfl
      | some o =>
        obtain ⟨o', h'⟩ := R.ktr a o eh
        rw [z] at h'; cases h'
  · by_cases hi : i < σ.length
    · rcases gt h1 (List.getElem?_eq_getElem hi) with ⟨z, _⟩ | ⟨i', m, d, s', v, k1, k2, k3, _, k4, k, rfl, _⟩
      · exact R.lock i s l z h2
      · rw [lk_upd k.w] at h2
        exact R.lock i s' l k4 h2
    · have := (List.getElem?_eq_some_iff.mp h1).1
      rw [updE_len, R.len] at this
      exact absurd this hi
/-- the boxes are the same -/
def sameB : List Md → List D → List D → Prop
  | .pab :: ms, d :: ds, d' :: ds' => d'.bxs = d.bxs ∧ sameB ms ds ds'
  | _ :: ms, _ :: ds, _ :: ds' => sameB ms ds ds'
  | _, _, _ => True
theorem sameB_no : ∀ {ms : List Md} {ds ds' : List D}, noPab ms = true → sameB ms ds ds'
  | [], _, _, _ => by simp [sameB]
  | m :: ms, [], ds', _ => by cases m <;> simp [sameB]
  | m :: ms, d :: ds, [], _ => by cases m <;> simp [sameB]
  | m :: ms, d :: ds, d' :: ds', h => by cases m <;> first | exact sameB_no (ms := ms) h | cases h
theorem sameB_at : ∀ {ms : List Md} {ds ds' : List D} {i : Nat} {m : Md} {d d' : D}, sameB ms ds ds' → ms[i]? = some m → ds[i]? = some d → ds'[i]? = some d' → (m.sl d').bxs = (m.sl d).bxs
  | [], _, _, i, _, _, _, _, h, _, _ => by simp at h
  | _ :: _, [], _, i, _, _, _, _, _, h, _ => by simp at h
  | _ :: _, _ :: _, [], i, _, _, _, _, _, _, h => by simp at h
  | m :: ms, d :: ds, d' :: ds', 0, m', e, e', h, h1, h2, h3 => by
    simp at h1 h2 h3; subst h1; subst h2; subst h3
    cases m <;> first | rfl | exact h.1
  | m :: ms, d :: ds, d' :: ds', i + 1, m', e, e', h, h1, h2, h3 => by
    refine sameB_at (ms := ms) (ds := ds) (ds' := ds') (i := i) ?_ (by simpa using h1) (by simpa using h2) (by simpa using h3)
    cases m <;> first | exact h | exact h.2
theorem After.wm {ms : List Md} {ds ds' : List D} {vs : List V} {U' : US} (A : After K H U ms ds vs H' U' ds') (AO : ArgsOk K H U ms ds vs) (sb : sameB ms ds ds') : ∀ x, Wm ms ds vs x ↔ Wm ms ds' vs x := by
  intro x
  constructor
  · rintro ⟨i, m, d, v, h1, h2, h3, h4⟩
    have hi : i < ds'.length := by have := (List.getElem?_eq_some_iff.mp h3).1; rw [A.len]; exact this
    exact ⟨i, m, _, v, h1, List.getElem?_eq_getElem hi, h3, sl_isW.trans (sl_isW.symm.trans h4.1), h4.2.imp id fun z => by rw [sameB_at sb h1 h2 (List.getElem?_eq_getElem hi)]; exact z⟩
  · rintro ⟨i, m, d, v, h1, h2, h3, h4⟩
    have hi : i < ds.length := by have := (List.getElem?_eq_some_iff.mp h3).1; rw [AO.l2]; exact this
    exact ⟨i, m, _, v, h1, List.getElem?_eq_getElem hi, h3, sl_isW.trans (sl_isW.symm.trans h4.1), h4.2.imp id fun z => by rw [← sameB_at sb h1 (List.getElem?_eq_getElem hi) h2]; exact z⟩
/-- a call that makes no new boxes keeps U -/
theorem After.upA {ms : List Md} {ds ds' : List D} {vs : List V} {U' : US} (A : After K H U ms ds vs H' U' ds') (AO : ArgsOk K H U ms ds vs) (sb : sameB ms ds ds') : ∀ a, U a → U' a := fun a u => by
  by_cases w : Wm ms ds vs a
  · obtain ⟨i, m, d, v, h1, h2, h3, h4⟩ := (A.wm AO sb a).mp w
    exact (A.par i m v d h1 (sl_isW.symm.trans h4.1) h3 h2).regU h4
  · exact A.up a u w
theorem Rel.afterS (R : Rel F U ρ σ H) {ms : List Md} {rs : List Rs} {vs : List V} {ds ds' : List D} {U' : US} (q : RVs F U σ H rs vs) (e : argsD ms rs ρ = some ds) (ap : apart ms rs = true) (sb : sameB ms ds ds') (A : After F.K H U ms ds vs H' U' ds') :
    Rel F U' (updE ms rs ds' ρ) σ H' ∧ Stp ρ σ H (updE ms rs ds' ρ) H' := by
  obtain ⟨AO, own⟩ := args_ok R q e ap
  obtain ⟨R2, k1, k2⟩ := R.after q e ap A
  refine ⟨R2, k1, fun a h => ?_, A.ktr⟩
  rcases k2 a h with z | z
  · exact z
  · -- a new box: there is none
    exfalso
    obtain ⟨l1, l2, g⟩ := argsD_out e
    obtain ⟨a1, a2⟩ := apart_out ap
    obtain ⟨j, s', o, h1, h2, h3⟩ := h
    have hU : ∀ x, Own ρ σ x → ∃ o, H x = some o := fun x hx => R.tr x (R.ownU hx)
    by_cases hj : j ∈ parN ms rs
    · obtain ⟨i, m, g1, w, g2⟩ := parN_ex hj
      have hv : i < vs.length := by have := (List.getElem?_eq_some_iff.mp g2).1; rw [← q.len]; exact this
      obtain ⟨r, er, q1⟩ := q.at (List.getElem?_eq_getElem hv)
      rw [g2] at er; cases er
      have hd : i < ds.length := by have := q.len; omega
      have hd' : i < ds'.length := by rw [A.len]; exact hv
      obtain ⟨j', s, ej, z1, z2, z3, k⟩ := par_slot R w (g i m _ _ g1 (List.getElem?_eq_getElem hd) g2) q1
      cases ej
      rw [updE_yes a1 g1 w g2 (List.getElem?_eq_getElem hd'), z1] at h1
      have h1 : some (if s.isW = true then s.upd ds'[i] else s) = some s' := h1
      rw [if_pos k.w] at h1
      cases h1
      rw [z3] at h2; cases h2
      have w' : Wm ms ds' vs a := ⟨i, m, _, _, g1, List.getElem?_eq_getElem hd', List.getElem?_eq_getElem hv, k.reg.mpr h3⟩
      obtain ⟨o, ho⟩ := hU a (own a ((A.wm AO sb a).mpr w'))
      rw [z] at ho; cases ho
    · rw [updE_no hj] at h1
      obtain ⟨o, ho⟩ := hU a ⟨j, s', o, h1, h2, h3⟩
      rw [z] at ho; cases ho
/-- a call: what it gives is shared -/
def eCall (ms : List Md) (sp : S3) (g : T3A) : T3E := fun ρ Q => g ρ fun rs ρ1 => apart ms rs = true ∧ wo (argsD ms rs ρ1) fun ds => sp ds (fun d ds' => Q (.val d) (updE ms rs ds' ρ1)) (fun d ds' => Q (.val d) (updE ms rs ds' ρ1))
theorem rp_of_top (h : TopW K H U d a) (n : ¬ U a) : Rp K H U d (.ref a) := by
  cases d <;> first | exact h.elim | skip
  · obtain ⟨vs, h1, h2⟩ := h; simp only [Rp]; exact ⟨a, vs, rfl, ⟨h1, n⟩, h2⟩
  · obtain ⟨vs, h1, h2⟩ := h; simp only [Rp]; exact ⟨a, vs, rfl, .inl h1, n, h2⟩
  · obtain ⟨vs, h1, h2⟩ := h; simp only [Rp]; exact ⟨a, vs, rfl, .inl h1, n, h2⟩
  · obtain ⟨dx, vs, h1, h2⟩ := h; simp only [Rp]; exact ⟨a, dx, vs, rfl, h1, n, h2⟩
  · obtain ⟨xs, h1, h2⟩ := h; simp only [Rp]; exact ⟨a, xs, rfl, .inl h1, n, h2⟩
/-- what follows a call within an expression -/
theorem callE {ms : List Md} {sp : S3} {rs : List Rs} {vs : List V} {ds : List D} {ρ1 : En} {H1 : Hp} {Q3 : Rs → En → Prop} {Q2 : VK} (R : Rel F U ρ σ H) (s1 : Stp ρ σ H ρ1 H1) (R1 : Rel F U ρ1 σ H1) (q1 : RVs F U σ H1 rs vs) (ap : apart ms rs = true) (ed : argsD ms rs ρ1 = some ds)
    (h1 : sp ds (fun d ds' => sameB ms ds ds' ∧ Q3 (.val d) (updE ms rs ds' ρ1)) (fun d ds' => sameB ms ds ds' ∧ Q3 (.val d) (updE ms rs ds' ρ1))) (k : KE F U ρ σ H Q3 Q2) (E : XK) : Lift F.K ms sp vs H1 Q2 E := by
  obtain ⟨AO, own⟩ := args_ok R1 q1 ed ap
  refine ⟨U, ds, _, _, AO, h1, fun v H' U' d ds' A rp q => ?_, fun a H' U' d ds' A t u nw q => ?_⟩
  · obtain ⟨R2, S2⟩ := R1.afterS q1 ed ap q.1 A
    have up := A.upA AO q.1
    have R3 : Rel F U (updE ms rs ds' ρ1) σ H' := R2.shrink up R.up fun a z => R1.ownU (S2.own a z)
    refine k (.val d) v _ _ R3 (s1.trans S2) ?_ q.2
    exact Rp.pres (fun a o h n => ⟨h, fun z => n (up a z)⟩) d v rp
  · obtain ⟨R2, S2⟩ := R1.afterS q1 ed ap q.1 A
    have up := A.upA AO q.1
    have R3 : Rel F U (updE ms rs ds' ρ1) σ H' := R2.shrink up R.up fun a z => R1.ownU (S2.own a z)
    refine k (.val d) (.ref a) _ _ R3 (s1.trans S2) ?_ q.2
    have p : Pres H' U' H' U := fun a o h n => ⟨h, fun z => n (up a z)⟩
    have nU : ¬ U a := fun z => by
      obtain ⟨o, ho⟩ := R1.tr a z
      rw [nw] at ho; cases ho
    exact rp_of_top (t.pres p fun _ h => h) nU
/-- a promise may ask less -/
def S3.Mono (sp : S3) : Prop := ∀ ds QR QO QR' QO', sp ds QR QO → (∀ d ds', QR d ds' → QR' d ds') → (∀ d ds', QO d ds' → QO' d ds') → sp ds QR' QO'
theorem callN {ms : List Md} {sp : S3} {rs : List Rs} {vs : List V} {ds : List D} {ρ1 : En} {H1 : Hp} {Q3 : Rs → En → Prop} {Q2 : VK} (np : noPab ms = true) (R : Rel F U ρ σ H) (s1 : Stp ρ σ H ρ1 H1) (R1 : Rel F U ρ1 σ H1) (q1 : RVs F U σ H1 rs vs) (ap : apart ms rs = true) (ed : argsD ms rs ρ1 = some ds)
    (h1 : sp ds (fun d ds' => Q3 (.val d) (updE ms rs ds' ρ1)) (fun d ds' => Q3 (.val d) (updE ms rs ds' ρ1))) (k : KE F U ρ σ H Q3 Q2) (E : XK) : Lift F.K ms sp vs H1 Q2 E := by
  refine callE R s1 R1 q1 ap ed ?_ k E
  have e : ∀ ds', sameB ms ds ds' = True := fun ds' => eq_true (sameB_no np)
  simp only [e, true_and]
  exact h1
theorem simCall {E : XK} {ms : List Md} {sp : S3} {u : TA} {g : T3A} (np : noPab ms = true) (h : SimA K u g) : SimE K (tCall (Lift K ms sp) [] E u) (eCall ms sp g) := by
  intro F U ρ σ H Q3 Q2 e R q k
  refine h F U ρ σ H _ _ e R q fun rs vs ρ1 H1 R1 s1 q1 ⟨ap, h1⟩ => ?_
  obtain ⟨ds, ed, h1⟩ := wo_out h1
  subst e
  rw [List.append_nil]
  exact callN np R s1 R1 q1 ap ed h1 k E
/-- .. is new and owned -/
def oCall (ms : List Md) (sp : S3) (g : T3A) : En → (D → En → Prop) → Prop := fun ρ Q => g ρ fun rs ρ1 => apart ms rs = true ∧ wo (argsD ms rs ρ1) fun ds => sp ds (fun _ _ => False) (fun d ds' => Q d (updE ms rs ds' ρ1))
theorem simOCall {E : XK} {ms : List Md} {sp : S3} {u : TA} {g : T3A} (np : noPab ms = true) (h : SimA K u g) : SimEO K (tCall (Lift K ms sp) [] E u) (oCall ms sp g) := by
  intro F U ρ σ H Q3 Q2 e R q k
  refine h F U ρ σ H _ _ e R q fun rs vs ρ1 H1 R1 s1 q1 ⟨ap, h1⟩ => ?_
  obtain ⟨ds, ed, h1⟩ := wo_out h1
  subst e
  obtain ⟨AO, own⟩ := args_ok R1 q1 ed ap
  rw [List.append_nil]
  refine ⟨U, ds, _, _, AO, h1, fun v H' U' d ds' A rp q => q.elim, fun a H' U' d ds' A t u nw q => ?_⟩
  obtain ⟨R2, S2⟩ := R1.afterS q1 ed ap (sameB_no np) A
  have up := A.upA AO (sameB_no np)
  have R3 : Rel F (fun b => U b ∨ b = a) (updE ms rs ds' ρ1) σ H' := R2.shrink (fun b z => z.elim (up b) fun e => by rw [e]; exact u) (fun b z n => .inl (R.up b z n)) fun a z => .inl (R1.ownU (S2.own a z))
  have p : Pres H' U' H' (fun b => U b ∨ b = a) := fun b o h n => ⟨h, fun z => n (z.elim (up b) fun e => by rw [e]; exact u)⟩
  refine k d a _ _ R3 (s1.trans S2) ?_ (t.pres p fun _ h => h) q
  cases eh : H a with
  | none => rfl
  | some o =>
    obtain ⟨o', h'⟩ := s1.tr a o eh
    rw [nw] at h'; cases h'
end
end L3

set_option Elab.async false
set_option linter.all false
set_option maxRecDepth 100000
namespace L3
open PySem PySem.Spec L2
open PyProof.Rows (b2i)

abbrev T3O' := En → (D → En → Prop) → Prop
section
variable {F : Fr} {U U2 : US} {ρ ρ' ρ2 : En} {σ σ2 : St} {H H' H2 : Hp} {K : PySem.W.Frag}

/-! ### a new object that is shared at once -/
def eShr (f : T3O') : T3E := fun ρ Q => f ρ fun d ρ1 => Q (.val d) ρ1
theorem Rel.noU (R : Rel F U ρ σ H) {a : Addr} (h : H a = none) : ¬ U a := fun z => by
  obtain ⟨o, ho⟩ := R.tr a z
  rw [h] at ho; cases ho
theorem simShr {t : TE} {f : T3O'} (h : SimEO K t f) : SimE K t (eShr f) := by
  intro F U ρ σ H Q3 Q2 e R q k
  refine h F U ρ σ H _ _ e R q fun d a ρ' H' R' S' hn t' q' => ?_
  have R3 : Rel F U ρ' σ H' := R'.shrink (fun a z => .inl z) R.up fun a z => R.ownU (S'.own a z)
  have p : Pres H' (fun b => U b ∨ b = a) H' U := fun a o h n => ⟨h, fun z => n (.inl z)⟩
  exact k (.val d) (.ref a) ρ' H' R3 S' (rp_of_top (t'.pres p fun _ h => h) (R.noU hn)) q'
/-- a new object at p -/
theorem freshEO (R : Rel F U ρ σ H) {p : Addr} {o : HO} (hp : H p = none) : Rel F (fun b => U b ∨ b = p) ρ σ (upd H p o) ∧ Stp ρ σ H ρ (upd H p o) ∧ Pres H U (upd H p o) (fun b => U b ∨ b = p) :=
  ⟨R.grow hp (ext_new hp) upd_same, .ext (ext_new hp), fun x u h n => ⟨ext_new hp x u h, fun z => z.elim n fun e => by subst e; rw [hp] at h; cases h⟩⟩
def oLst (g : T3A) : T3O' := fun ρ Q => g ρ fun rs ρ1 => allV rs fun ds => ds.length ≤ sizeLine ∧ Q (.lst ds) ρ1
theorem back_none (S : Stp ρ σ H ρ' H') {p : Addr} (h : H' p = none) : H p = none := by
  cases e : H p with
  | none => rfl
  | some o => obtain ⟨o', h'⟩ := S.tr p o e; rw [h] at h'; cases h'
theorem simOLst {u : TA} {g : T3A} (h : SimA K u g) : SimEO K (tLst u) (oLst g) := by
  intro F U ρ σ H Q3 Q2 e R q k
  refine h F U ρ σ H _ _ e R q fun rs vs ρ1 H1 R1 s1 q1 h1 => ?_
  obtain ⟨ds, z1, z2, z3, z4⟩ := allV_out q1 h1
  refine ⟨by rw [z1.len]; exact z3, fun p hp => ?_⟩
  obtain ⟨R2, S2, P2⟩ := freshEO R1 (o := .lst vs) hp
  exact k (.lst ds) p ρ1 _ R2 (s1.trans S2) (back_none s1 hp) ⟨vs, upd_same, RpAll.pres P2 _ _ z1⟩ z4
/-- list(x), x a list or a tuple -/
def oListC (g : T3A) : T3O' := fun ρ Q => g ρ fun rs ρ1 => w1 rs ρ1 fun d => match d with
  | .lst ds => Q (.lst ds) ρ1
  | .tup ds => Q (.lst ds) ρ1
  | _ => False
theorem simOListC {u : TA} {g : T3A} (h : SimA K u g) : SimEO K (tCB (fun xs H Q => ∃ p ys, xs = [.ref p] ∧ (SqL K H p ys ∨ SqT K H p ys) ∧ ∀ l, H l = none → Q (.ref l) (upd H l (.lst ys))) u) (oListC g) := by
  intro F U ρ σ H Q3 Q2 e R q k
  refine h F U ρ σ H _ _ e R q fun rs vs ρ1 H1 R1 s1 q1 h1 => ?_
  obtain ⟨x, v, d, rfl, rfl, q1, e1, h⟩ := w1_out q1 h1
  subst e
  have fin : ∀ {ds : List D} {vs : List V}, RpAll F.K H1 U ds vs → Q3 (.lst ds) ρ1 → ∀ p, H1 p = none → Q2 (.ref p) (upd H1 p (.lst vs)) := fun {ds vs} z2 h p hp => by
    obtain ⟨R2, S2, P2⟩ := freshEO R1 (o := .lst vs) hp
    exact k (.lst ds) p ρ1 _ R2 (s1.trans S2) (back_none s1 hp) ⟨vs, upd_same, RpAll.pres P2 _ _ z2⟩ h
  cases d <;> first | exact h.elim | skip
  · obtain ⟨a, vs, rfl, z1, z2, _⟩ := q1.tup R1 e1
    exact ⟨a, vs, rfl, .inr z1, fin z2 h⟩
  · obtain ⟨a, vs, rfl, z1, z2⟩ := q1.lst R1 e1
    exact ⟨a, vs, rfl, .inl z1, fin z2 h⟩
/-- xs[::-1] -/
def oRev (f : T3E) : T3O' := fun ρ Q => f ρ fun r ρ1 => wd r ρ1 fun d => match d with
  | .lst ds => Q (.lst ds.reverse) ρ1
  | _ => False
theorem simORev {t : TE} {f : T3E} (h : SimE K t f) : SimEO K (tRevL K t) (oRev f) := by
  intro F U ρ σ H Q3 Q2 e R q k
  refine h F U ρ σ H _ _ e R q fun r v ρ1 H1 R1 s1 q1 h1 => ?_
  subst e
  obtain ⟨d, e1, h1⟩ := wd_out h1
  cases d <;> first | exact h1.elim | skip
  obtain ⟨a, vs, rfl, z1, z2⟩ := q1.lst R1 e1
  refine ⟨a, vs, rfl, z1, fun p hp => ?_⟩
  obtain ⟨R2, S2, P2⟩ := freshEO R1 (o := .lst vs.reverse) hp
  exact k (.lst _) p ρ1 _ R2 (s1.trans S2) (back_none s1 hp) ⟨vs.reverse, upd_same, RpAll.pres P2 _ _ z2.rev⟩ h1
/-- a lent slot does not hold what is newer than the frame -/
theorem rpF_nob {ds : List (Str × D)} : ∀ {vs : List (Str × V)}, RpF K H U ds vs → bxsF ds = [] := by
  induction ds with
  | nil => intro _ _; rfl
  | cons p ds ih =>
    intro vs h
    obtain ⟨k, d⟩ := p
    simp only [RpF] at h
    obtain ⟨v, r, e1, h1, h2⟩ := h
    cases d <;> first | exact ih h2 | (simp only [Rp] at h1)
theorem rp_reg {H0 : Hp} {U0 : US} {d : D} {b p : Addr} (r : Rp K H0 U0 d (.ref b)) (t : TopR K H U d b) (hp : d.reg b p) : ∃ o, H0 p = some o := by
  cases d <;> first | exact t.elim | skip
  · simp only [Rp] at r; obtain ⟨a, vs, e, h1, _⟩ := r; cases e
    rcases hp with e | hp; (subst e; exact ⟨_, h1.1⟩); cases hp
  · simp only [Rp] at r; obtain ⟨a, vs, e, h1, _⟩ := r; cases e
    rcases hp with e | hp
    · subst e; rcases h1 with h1 | ⟨o, h1⟩ <;> exact ⟨_, h1⟩
    · cases hp
  · simp only [Rp] at r; obtain ⟨a, vs, e, h1, _⟩ := r; cases e
    rcases hp with e | hp
    · subst e; rcases h1 with h1 | ⟨o, h1⟩ <;> exact ⟨_, h1⟩
    · cases hp
  · simp only [Rp] at r; obtain ⟨a, dx, vs, e, h1, _, h2⟩ := r; cases e
    rcases hp with e | hp
    · subst e; exact ⟨_, h1⟩
    · have hp : p ∈ bxsF _ := hp
      rw [rpF_nob h2] at hp; cases hp
  · simp only [Rp] at r; obtain ⟨a, vs, e, h1, _⟩ := r; cases e
    rcases hp with e | hp
    · subst e; rcases h1 with h1 | ⟨o, h1⟩ <;> exact ⟨_, h1⟩
    · cases hp
theorem Rel.brwOld (R : Rel F U ρ σ H) {p b : Addr} (hn : F.H0 p = none) {j : Nat} {d : D} (h : ρ[j]? = some (.brw d)) (h2 : σ[j]? = some (some (.ref b))) (t : TopR F.K H U d b) (hp : d.reg b p) : False := by
  obtain ⟨l1, l2⟩ := R.lock j _ _ h rfl
  rw [h2] at l2
  rcases R.b0 j d l1 with ⟨v, ev, r⟩ | ⟨c, eb, ho⟩
  · rw [← l2] at ev; cases ev
    obtain ⟨o, ho⟩ := rp_reg r t hp
    rw [hn] at ho; cases ho
  · rw [← l2] at eb; cases eb
    obtain ⟨o, ho⟩ := ho p hp
    rw [hn] at ho; cases ho
/-- a write to an object that nobody owns and nobody shares -/
theorem Rel.poke (R : Rel F U ρ σ H) {p : Addr} {o : HO} (no : ¬ Own ρ σ p) (hu : U p) (hn : F.H0 p = none) : Rel F U ρ σ (upd H p o) := by
  have P : Pres H U (upd H p o) U := fun x u h n => ⟨by rw [upd_ne (fun e => n (by rw [e]; exact hu))]; exact h, n⟩
  refine ⟨R.len, fun i s v h1 h2 => (R.slot i s v h1 h2).pres P fun x hx u => ⟨u, fun w hw => ?_⟩, fun i d v h1 h2 => ?_, R.inj, fun a h => ?_, fun a u h n => ?_, fun a u h => ?_, R.shar, R.up, R.new, R.lock, R.wu, R.b0, R.u0⟩
  · rw [upd_ne fun e : x = p => no ⟨i, s, v, h1, h2, e ▸ hx⟩]; exact hw
  · rcases R.bor i d v h1 h2 with ⟨v, e1, q⟩ | ⟨b, e1, q, n⟩
    · exact .inl ⟨v, e1, Rp.pres P d v q⟩
    · subst e1
      refine .inr ⟨b, rfl, q.pres P fun x hx o h => ?_, n⟩
      rw [upd_ne fun e : x = p => R.brwOld hn h1 h2 q (e ▸ hx)]; exact h
  · by_cases e : a = p
    · subst e; exact ⟨_, upd_same⟩
    · obtain ⟨o, h⟩ := R.tr a h
      exact ⟨o, by rw [upd_ne e]; exact h⟩
  · have na : a ≠ p := fun e => by subst e; rw [hn] at h; cases h
    rw [upd_ne na]; exact R.keep a u h n
  · by_cases e : a = p
    · subst e; exact ⟨_, upd_same⟩
    · obtain ⟨o, h⟩ := R.ktr a u h
      exact ⟨o, by rw [upd_ne e]; exact h⟩

/-! ### dict displays -/
def oDicE : T3O' := fun ρ Q => Q (.dic []) ρ
theorem simODicE : SimEO K tDNewK oDicE := by
  intro F U ρ σ H Q3 Q2 e R q k p hp
  obtain ⟨R2, S2, P2⟩ := freshEO R (o := .dK []) hp
  exact k (.dic []) p ρ _ R2 S2 hp ⟨[], upd_same, by simp only [RpK]⟩ q
/-- {'k': e, ..}: the keys texts -/
def dPairs : List (Str × T3E) → En → (List (Key × D) → En → Prop) → Prop
  | [], ρ, Q => Q [] ρ
  | (k, f) :: r, ρ, Q => f ρ fun x ρ1 => match x with
    | .val d => dPairs r ρ1 fun kvs ρ2 => Q ((.inr k, d) :: kvs) ρ2
    | _ => False
def mergeD (kvs : List (Key × D)) : List (Key × D) → List (Key × D)
  | [] => kvs
  | p :: r => mergeD (putD kvs p.1 p.2) r
theorem RpK.merge : ∀ {es : List (Key × D)} {ws : List (Key × V)} {ds : List (Key × D)} {vs : List (Key × V)}, RpK K H U es ws → RpK K H U ds vs → RpK K H U (mergeD ds es) (mergeK vs ws)
  | [], _, _, _, h, h' => by simp only [RpK] at h; subst h; exact h'
  | (k, d) :: es, _, ds, vs, h, h' => by
    simp only [RpK] at h
    obtain ⟨v, r, rfl, h1, h2⟩ := h
    show RpK K H U (mergeD (putD ds k d) es) (mergeK (putK vs k v) r)
    exact RpK.merge h2 (h'.put k h1)
def oDisp (ps : List (Str × T3E)) : T3O' := fun ρ Q => dPairs ps ρ fun kvs ρ1 => kvs.length ≤ 15 ∧ Q (.dic (mergeD [] kvs)) ρ1
inductive SimP (K : PySem.W.Frag) : List (TE × TE) → List (Str × T3E) → Prop
  | nil : SimP K [] []
  | cons {s : Str} {t : TE} {f : T3E} {r : List (TE × TE)} {r3 : List (Str × T3E)} : SimE K t f → SimP K r r3 → SimP K ((tC (.str s), t) :: r) ((s, f) :: r3)
theorem simPairs {r : List (TE × TE)} {r3 : List (Str × T3E)} (h : SimP K r r3) : ∀ (F : Fr) (U : US) (ρ : En) (σ : St) (H : Hp) (Q3 : List (Key × D) → En → Prop) (Q2 : List (V × V) → Hp → Prop), F.K = K → Rel F U ρ σ H → dPairs r3 ρ Q3 →
    (∀ kvs ws ρ' H', Rel F U ρ' σ H' → Stp ρ σ H ρ' H' → RpK F.K H' U kvs ws → Q3 kvs ρ' → Q2 (ws.map fun kv => (kV kv.1, kv.2)) H') → tPairs r σ H Q2 := by
  induction h with
  | nil => exact fun F U ρ σ H Q3 Q2 e R q k => k [] [] ρ H R (.refl R) (by simp only [RpK]) q
  | @cons s t f r r3 h _ ih =>
    intro F U ρ σ H Q3 Q2 e R q k
    refine h F U ρ σ H _ _ e R q fun x v ρ1 H1 R1 s1 q1 h1 => ?_
    cases x with
    | sl _ => exact h1.elim
    | bx _ _ _ => exact h1.elim
    | val d =>
      refine ih F U ρ1 σ H1 _ _ e R1 h1 fun kvs ws ρ2 H2 R2 s2 q2 h2 => ?_
      refine k ((.inr s, d) :: kvs) ((.inr s, v) :: ws) ρ2 H2 R2 (s1.trans s2) ?_ h2
      simp only [RpK]
      exact ⟨v, ws, rfl, Rp.pres (s2.pres R1) _ _ q1, q2⟩
theorem simODisp {r : List (TE × TE)} {r3 : List (Str × T3E)} (h : SimP K r r3) : SimEO K (tDisp r) (oDisp r3) := by
  intro F U ρ σ H Q3 Q2 e R q k p hp
  obtain ⟨R1, S1, P1⟩ := freshEO R (o := .dK []) hp
  refine simPairs h F _ ρ σ _ _ _ e R1 q fun kvs ws ρ2 H2 R2 s2 q2 h2 => ?_
  have no : ¬ Own ρ σ p := fun z => R.noU hp (R.ownU z)
  have e2 : H2 p = some (.dK []) := s2.keep p _ upd_same no
  have S2 : Stp ρ σ H ρ2 H2 := S1.trans s2
  refine ⟨e2, ws, rfl, by rw [q2.len]; exact h2.1, ?_⟩
  have no2 : ¬ Own ρ2 σ p := fun z => no (s2.own p z)
  have Pw : Pres H2 (fun b => U b ∨ b = p) (upd H2 p (.dK (mergeK [] ws))) (fun b => U b ∨ b = p) := fun x o h n => ⟨by rw [upd_ne (fun e => n (.inr e))]; exact h, n⟩
  refine k (.dic (mergeD [] kvs)) p ρ2 _ ?_ ⟨fun x o h n => ?_, S2.own, fun x o h => ?_⟩ hp ⟨_, upd_same, RpK.pres Pw _ _ (q2.merge (by simp only [RpK]))⟩ h2.2
  · -- a write at p, which no slot owns
    exact R2.poke no2 (.inr rfl) (up_new R hp)
  · have nx : x ≠ p := fun e => by subst e; rw [hp] at h; cases h
    rw [upd_ne nx]; exact S2.keep x o h n
  · by_cases e : x = p
    · subst e; exact ⟨_, upd_same⟩
    · obtain ⟨o', h'⟩ := S2.tr x o h
      exact ⟨o', by rw [upd_ne e]; exact h'⟩

/-! ### the fields of an object -/
theorem RpF.get : ∀ {ds : List (Str × D)} {vs : List (Str × V)} {f : Str} {d : D}, RpF K H U ds vs → ds.lookup f = some d → ∃ v, vs.lookup f = some v ∧ Rp K H U d v
  | [], _, f, d, _, e => by cases e
  | (k, d') :: ds, _, f, d, h, e => by
    simp only [RpF] at h
    obtain ⟨v, r, rfl, h1, h2⟩ := h
    rw [List.lookup_cons] at e ⊢
    by_cases q : (f == k) = true
    · rw [q] at e ⊢; cases e; exact ⟨v, rfl, h1⟩
    · rw [Bool.eq_false_iff.mpr q] at e ⊢; exact RpF.get h2 e
theorem RpF.no : ∀ {ds : List (Str × D)} {vs : List (Str × V)} {f : Str}, RpF K H U ds vs → ds.lookup f = none → vs.lookup f = none
  | [], _, f, h, e => by simp only [RpF] at h; subst h; rfl
  | (k, d') :: ds, _, f, h, e => by
    simp only [RpF] at h
    obtain ⟨v, r, rfl, h1, h2⟩ := h
    rw [List.lookup_cons] at e ⊢
    by_cases q : (f == k) = true
    · rw [q] at e; cases e
    · rw [Bool.eq_false_iff.mpr q] at e ⊢; exact RpF.no h2 e
theorem RpF.len : ∀ {ds : List (Str × D)} {vs : List (Str × V)}, RpF K H U ds vs → vs.length = ds.length
  | [], _, h => by simp only [RpF] at h; rw [h]; rfl
  | (k, d) :: ds, _, h => by
    simp only [RpF] at h
    obtain ⟨v, r, rfl, _, h2⟩ := h
    rw [List.length_cons, List.length_cons, RpF.len h2]
/-- e.f -/
theorem RvF.no : ∀ {ds : List (Str × D)} {vs : List (Str × V)} {f : Str}, RvF K H U ds vs → ds.lookup f = none → vs.lookup f = none
  | [], _, _, h, _ => by simp only [RvF] at h; subst h; rfl
  | (k, d) :: ds, _, f, h, e => by
    simp only [RvF] at h
    obtain ⟨v, r, rfl, h1, h2⟩ := h
    rw [List.lookup_cons] at e ⊢
    cases hk : (f == k) with
    | true => rw [hk] at e; cases e
    | false => rw [hk] at e; exact RvF.no h2 e
def D.isBx : D → Bool
  | .bx _ _ => true
  | _ => false
theorem rv_rp {d : D} {v : V} (h : Rv K H U d v) (n : d.isBx = false) : Rp K H U d v := by
  cases d <;> first | exact h | cases n
def eFld (C : Addr) (f : Str) (g : T3E) : T3E := fun ρ Q => g ρ fun r ρ1 => wd r ρ1 fun d => match d with
  | .obj C' fs => C' = C ∧ wo (fs.lookup f) fun d => d.isBx = false ∧ Q (.val d) ρ1
  | _ => False
theorem simFld {C : Addr} {f : Str} {t : TE} {g : T3E} (c : Cls K C) (n : NoAttr K C f) (h : SimE K t g) : SimE K (tFld K t f) (eFld C f g) := by
  intro F U ρ σ H Q3 Q2 e R q k
  refine h F U ρ σ H _ _ e R q fun r v ρ1 H1 R1 s1 q1 h1 => ?_
  obtain ⟨d, e1, h1⟩ := wd_out h1
  cases d <;> first | exact h1.elim | skip
  obtain ⟨ec, h2⟩ := h1
  obtain ⟨d', ed, nb, h3⟩ := wo_out h2
  obtain ⟨a, dx, gs, rfl, z1, z2⟩ := q1.obj R1 e1
  obtain ⟨w, ew, rw'⟩ := z2.get ed
  exact ⟨a, _, dx, gs, w, rfl, z1, ec ▸ c, ec ▸ n, ew, k (.val d') w ρ1 H1 R1 s1 (rv_rp rw' nb) h3⟩
/-- .. that holds a box -/
def eFldB (C : Addr) (f : Str) (g : T3E) : T3E := fun ρ Q => g ρ fun r ρ1 => match r with
  | .sl i => wd r ρ1 fun d => match d with
    | .obj C' fs => C' = C ∧ wo (fs.lookup f) fun d => match d with
      | .bx b _ => Q (.bx i f b) ρ1
      | _ => False
    | _ => False
  | _ => False
theorem simFldB {C : Addr} {f : Str} {t : TE} {g : T3E} (c : Cls K C) (n : NoAttr K C f) (h : SimE K t g) : SimE K (tFld K t f) (eFldB C f g) := by
  intro F U ρ σ H Q3 Q2 e R q k
  refine h F U ρ σ H _ _ e R q fun r v ρ1 H1 R1 s1 q1 h1 => ?_
  cases r <;> first | exact h1.elim | skip
  rename_i i
  obtain ⟨d, e1, h1⟩ := wd_out h1
  cases d <;> first | exact h1.elim | skip
  obtain ⟨ec, h2⟩ := h1
  obtain ⟨d', ed, h3⟩ := wo_out h2
  cases d' <;> first | exact h3.elim | skip
  rename_i b db
  obtain ⟨a, dx, gs, rfl, z1, z2⟩ := q1.obj R1 e1
  obtain ⟨w, ew, rw'⟩ := z2.get ed
  have hw : w = .ref b := rw'.1
  exact ⟨a, _, dx, gs, w, rfl, z1, ec ▸ c, ec ▸ n, ew, k (.bx i f b) w ρ1 H1 R1 s1 hw h3⟩
theorem RpF.put {f : Str} {d : D} {v : V} : ∀ {ds : List (Str × D)} {vs : List (Str × V)}, RpF K H U ds vs → Rp K H U d v → RpF K H U (putF' f d ds) (putF f v vs)
  | [], _, h, q => by simp only [RpF] at h; subst h; simp only [putF', putF, RpF]; exact ⟨v, [], rfl, q, rfl⟩
  | (k, d') :: ds, _, h, q => by
    simp only [RpF] at h
    obtain ⟨v', r, rfl, h1, h2⟩ := h
    by_cases e : k = f
    · simp only [putF', putF, if_pos e, RpF]; exact ⟨v, r, rfl, q, h2⟩
    · simp only [putF', putF, if_neg e, RpF]; exact ⟨v', _, rfl, h1, RpF.put h2 q⟩
/-- e.f = value, e an owned object -/
def sFldP (C : Addr) (f : Str) (fv fo : T3E) : T3S := fun E ρ => fv ρ fun r ρ1 => fo ρ1 fun o ρ2 => match r with
  | .val d => ww o ρ2 fun dx up => match dx with
    | .obj C' fs => C' = C ∧ fs.length < 1000 ∧ E.nx (up (.obj C' (putF' f d fs)))
    | _ => False
  | _ => False
theorem simFldP {C : Addr} {f : Str} {tv to : TE} {fv fo : T3E} (c : Cls K C) (n : NoAttr K C f) (hv : SimE K tv fv) (ho : SimE K to fo) : SimS K (sFld K to tv f) (sFldP C f fv fo) := by
  intro F U ρ σ H D3 D2 e R q k
  refine hv F U ρ σ H _ _ e R q fun r v ρ1 H1 R1 s1 q1 h1 => ?_
  refine ho F U ρ1 σ H1 _ _ e R1 h1 fun o vo ρ2 H2 R2 s2 q2 h2 => ?_
  cases r with
  | sl _ => exact h2.elim
  | bx _ _ _ => exact h2.elim
  | val d =>
    obtain ⟨dl, up, a, rfl, u, t', wr, h3⟩ := ww_out R2 q2 h2
    cases dl <;> first | exact h3.elim | skip
    rename_i C' fs
    obtain ⟨ec, h4, h5⟩ := h3
    obtain ⟨dx, gs, z1, z2⟩ := t'
    have rd : Rp F.K H2 U d v := Rp.pres (s2.pres R1) _ _ q1
    have z3 : RpF F.K (upd H2 a (.ins C' dx (putF f v gs))) U (putF' f d fs) (putF f v gs) := RpF.pres (pres_w R2 u) _ _ (z2.put rd)
    obtain ⟨R', S'⟩ := wr (d' := .obj C' (putF' f d fs)) ⟨dx, _, upd_same, z3⟩
    exact ⟨a, C', dx, gs, rfl, z1, ec ▸ c, ec ▸ n, by rw [z2.len]; exact h4, k.nx _ _ _ _ R' h5⟩

/-! ### a new object; a method -/
theorem old_ins {x dx : Addr} {C : Addr} {ho : HO} (hx : H x = none) (hd : H dx = none) {a : Addr} {u : HO} (h : H a = some u) : a ≠ x ∧ upd (upd H dx ho) x (.ins C dx []) a = some u := by
  have nx : a ≠ x := fun e => by subst e; rw [hx] at h; cases h
  have nd : a ≠ dx := fun e => by subst e; rw [hd] at h; cases h
  exact ⟨nx, by rw [upd_ne nx, upd_ne nd]; exact h⟩
/-- the receiver's mode: par or pab -/
theorem wm_cons {m0 : Md} {d0 : D} {v0 : V} {ms : List Md} {ds : List D} {vs : List V} {x : Addr} : Wm (m0 :: ms) (d0 :: ds) (v0 :: vs) x ↔ (m0.sl d0).reg (some v0) x ∨ Wm ms ds vs x := by
  constructor
  · rintro ⟨i, m, d, v, h1, h2, h3, h4⟩
    cases i with
    | zero => cases h1; cases h2; cases h3; exact .inl h4
    | succ i => exact .inr ⟨i, m, d, v, by simpa using h1, by simpa using h2, by simpa using h3, h4⟩
  · rintro (h | ⟨i, m, d, v, h1, h2, h3, h4⟩)
    · exact ⟨0, m0, d0, v0, rfl, rfl, rfl, h⟩
    · exact ⟨i + 1, m, d, v, by simpa using h1, by simpa using h2, by simpa using h3, h4⟩
theorem reg_obj0 {m : Md} {C x y : Addr} (h : (m.sl (.obj C [])).reg (some (.ref x)) y) : y = x := by
  rcases h.2 with h | h
  · cases h; rfl
  · cases m <;> cases h
theorem After.tail {m0 : Md} {ms : List Md} {vs : List V} {x dx : Addr} {C : Addr} {U' : US} {o : D} {ds ds' : List D} {ho : HO} (hx : H x = none) (hd : H dx = none) (hu : ∀ a, U a → ∃ o, H a = some o) (hw : ∀ a, Wm ms ds vs a → U a)
    (A : After K (upd (upd H dx ho) x (.ins C dx [])) (fun b => U b ∨ b = x) (m0 :: ms) (.obj C [] :: ds) (.ref x :: vs) H' U' (o :: ds')) : After K H U ms ds vs H' U' ds' := by
  have nW : ∀ a, H a ≠ none → ¬ Wm ms ds vs a → ¬ Wm (m0 :: ms) (.obj C [] :: ds) (.ref x :: vs) a := fun a h n w => by
    rcases wm_cons.mp w with z | z
    · have := reg_obj0 z
      subst this; exact h hx
    · exact n z
  refine ⟨Nat.succ.inj A.len, fun a u h n => A.keep a u (old_ins hx hd h).2 (nW a (by rw [h]; simp) n), fun a u h => A.ktr a u (old_ins hx hd h).2, fun a u h n => A.shar a u (old_ins hx hd h).2 fun z => z.elim n (old_ins (C := C) (ho := ho) hx hd h).1,
    fun a h n => A.up a (.inl h) (nW a (by obtain ⟨o, e⟩ := hu a h; rw [e]; simp) n), A.tr, fun i m v d h1 w h2 h3 => A.par (i + 1) m v d (by simpa using h1) w (by simpa using h2) (by simpa using h3), fun y hy => ?_, fun i j m m' d d' v v' y h1 h2 h3 h4 h5 h6 h7 h8 => ?_⟩
  · rcases A.reg y (wm_cons.mpr (.inr hy)) with z | z
    · rcases wm_cons.mp z with z | z
      · exact .inr (by rw [reg_obj0 z]; exact hx)
      · exact .inl z
    · refine .inr ?_
      cases e : H y with
      | none => rfl
      | some u => rw [(old_ins hx hd e).2] at z; cases z
  · exact Nat.succ.inj (A.inj (i + 1) (j + 1) m m' d d' v v' y (by simpa using h1) (by simpa using h2) (by simpa using h3) (by simpa using h4) (by simpa using h5) (by simpa using h6) h7 h8)
def oMake (C : Addr) (ms : List Md) (sp : S3) (g : T3A) : T3O' := fun ρ Q => g ρ fun rs ρ1 => apart ms rs = true ∧ wo (argsD ms rs ρ1) fun ds => sp (.obj C [] :: ds) (fun r ds' => r.isNon = true ∧ match ds' with
  | o :: ds'' => Q o (updE ms rs ds'' ρ1)
  | [] => False) (fun _ _ => False)
theorem isNon_rp {d : D} {v : V} (h : d.isNon = true) (r : Rp K H U d v) : v = .non := by
  cases d <;> first | (simp only [Rp] at r; exact r) | cases h
/-- the arguments of a making -/
theorem make_args (R : Rel F U ρ σ H) {m0 : Md} {ms : List Md} {rs : List Rs} {vs : List V} {ds : List D} (mw : m0.isW = true) (AO : ArgsOk F.K H U ms ds vs) (own : ∀ a, Wm ms ds vs a → Own ρ σ a) {x dx C : Addr} (hx : H x = none) (hd : H dx = none) :
    ArgsOk F.K (upd (upd H dx (.own x)) x (.ins C dx [])) (fun b => U b ∨ b = x) (m0 :: ms) (.obj C [] :: ds) (.ref x :: vs) := by
  have P : Pres H U (upd (upd H dx (.own x)) x (.ins C dx [])) (fun b => U b ∨ b = x) := fun a u h n => ⟨(old_ins hx hd h).2, fun z => z.elim n (old_ins (C := C) (ho := .own x) hx hd h).1⟩
  have wx : ∀ a, Wm ms ds vs a → a ≠ x := fun a w e => by
    subst e
    obtain ⟨o, ho⟩ := R.tr a (R.ownU (own a w))
    rw [hx] at ho; cases ho
  refine ⟨congrArg (· + 1) AO.l1, congrArg (· + 1) AO.l2, fun i m d v e1 e2 e3 => ?_, fun i j m m' d d' v v' y h1 h2 h3 h4 h5 h6 h7 h8 => ?_, fun a z => ?_⟩
  · cases i with
    | zero =>
      cases e1; cases e2; cases e3
      cases m0 <;> first | (cases mw; done) | exact ⟨x, rfl, .inr rfl, dx, [], upd_same, by simp only [RpF]⟩ | exact ⟨x, rfl, .inr rfl, dx, [], upd_same, by simp only [OvF], by simp [bxsF]⟩
    | succ i =>
      have z := AO.ok i m d v (by simpa using e1) (by simpa using e2) (by simpa using e3)
      have wr : SlotOk F.K H U (m.sl d) (some v) → SlotOk F.K (upd (upd H dx (.own x)) x (.ins C dx [])) (fun b => U b ∨ b = x) (m.sl d) (some v) := fun z => z.pres P fun y _ u => ⟨.inl u, fun o h => (old_ins hx hd h).2⟩
      cases m with
      | shr => exact Rp.pres P _ _ z
      | brw =>
        rcases z with z | ⟨a, ea, t, nw⟩
        · exact .inl (Rp.pres P _ _ z)
        · refine .inr ⟨a, ea, t.pres P fun y _ o h => (old_ins hx hd h).2, fun y hy w => ?_⟩
          rcases wm_cons.mp w with w | w
          · have := reg_obj0 w
            subst this
            obtain ⟨o, ho⟩ := t.some y hy
            rw [hx] at ho; cases ho
          · exact nw y hy w
      | par => exact wr z
      | pab => exact wr z
  · cases i with
    | zero =>
      cases h1; cases h3; cases h5
      cases j with
      | zero => rfl
      | succ j => exact absurd (reg_obj0 h7) (wx y ⟨j, m', d', v', by simpa using h2, by simpa using h4, by simpa using h6, h8⟩)
    | succ i =>
      cases j with
      | zero =>
        cases h2; cases h4; cases h6
        exact absurd (reg_obj0 h8) (wx y ⟨i, m, d, v, by simpa using h1, by simpa using h3, by simpa using h5, h7⟩)
      | succ j => exact congrArg (· + 1) (AO.inj i j m m' d d' v v' y (by simpa using h1) (by simpa using h2) (by simpa using h3) (by simpa using h4) (by simpa using h5) (by simpa using h6) h7 h8)
  · rcases z with z | z
    · obtain ⟨o, ho⟩ := R.tr a z
      exact ⟨o, (old_ins hx hd ho).2⟩
    · subst z; exact ⟨_, upd_same⟩
theorem simOMake {C : Addr} {E : XK} {ms : List Md} {sp : S3} {u : TA} {g : T3A} (np : noPab ms = true) (h : SimA K u g) : SimEO K (tMake C (Lift K (.par :: ms) sp) [] E u) (oMake C ms sp g) := by
  intro F U ρ σ H Q3 Q2 e R q k
  refine h F U ρ σ H _ _ e R q fun rs vs ρ1 H1 R1 s1 q1 ⟨ap, h1⟩ => ?_
  obtain ⟨ds, ed, h1⟩ := wo_out h1
  subst e
  obtain ⟨AO, own⟩ := args_ok R1 q1 ed ap
  intro x dx hx hd hne
  rw [List.append_nil]
  refine ⟨fun b => U b ∨ b = x, .obj C [] :: ds, _, _, make_args (rs := rs) R1 rfl AO own hx hd, h1, fun v H' U' d ds' A rp q => ?_, fun _ _ _ _ _ _ _ _ _ q => q.elim⟩
  obtain ⟨hnon, q⟩ := q
  refine ⟨isNon_rp hnon rp, ?_⟩
  cases ds' with
  | nil => exact q.elim
  | cons o ds'' =>
    have q : Q3 o (updE ms rs ds'' ρ1) := q
    obtain ⟨x', ex', ux, tx⟩ : SlotOk F.K H' U' (.par o) (some (.ref x)) := A.par 0 .par (.ref x) o rfl rfl rfl rfl
    cases ex'
    have A' := A.tail hx hd R1.tr fun a w => R1.ownU (own a w)
    have up := A'.upA AO (sameB_no np)
    obtain ⟨R2, S2⟩ := R1.afterS q1 ed ap (sameB_no np) A'
    have R3 : Rel F (fun b => U b ∨ b = x) (updE ms rs ds'' ρ1) σ H' := R2.shrink (fun b z => z.elim (up b) fun e => by rw [e]; exact ux) (fun b z n => .inl (R.up b z n)) fun a z => .inl (R1.ownU (S2.own a z))
    have p : Pres H' U' H' (fun b => U b ∨ b = x) := fun b o h n => ⟨h, fun z => n (z.elim (up b) fun e => by rw [e]; exact ux)⟩
    exact k o x _ _ R3 (s1.trans S2) (back_none s1 hx) (tx.pres p fun _ h => h) q
/-- o.m(..): ms tells the receiver first -/
def eMeth (C : Addr) (m : Str) (ms : List Md) (sp : S3) (fo : T3E) (g : T3A) : T3E := fun ρ Q => fo ρ fun r ρ1 => wd r ρ1 fun d => match d with
  | .obj C' fs => (C' = C ∧ fs.lookup m = none) ∧ g ρ1 fun rs ρ2 => apart ms (r :: rs) = true ∧ wo (argsD ms (r :: rs) ρ2) fun ds => sp ds (fun d ds' => Q (.val d) (updE ms (r :: rs) ds' ρ2)) (fun d ds' => Q (.val d) (updE ms (r :: rs) ds' ρ2))
  | _ => False
theorem simMeth {C : Addr} {m : Str} {E : XK} {ms : List Md} {sp : S3} {t : TE} {u : TA} {fo : T3E} {g : T3A} (np : noPab ms = true) (ho : SimE K t fo) (h : SimA K u g) : SimE K (tMeth C m (Lift K ms sp) [] E t u) (eMeth C m ms sp fo g) := by
  intro F U ρ σ H Q3 Q2 e R q k
  refine ho F U ρ σ H _ _ e R q fun r v ρ0 H0 R0 s0 q0 h0 => ?_
  obtain ⟨d, e1, h0⟩ := wd_out h0
  cases d <;> first | exact h0.elim | skip
  rename_i C' fs
  obtain ⟨⟨ec, hm⟩, h2⟩ := h0
  obtain ⟨a, dx, gs, rfl, z1, z2⟩ := q0.obj R0 e1
  refine ⟨a, dx, gs, rfl, ec ▸ z1, z2.no hm, ?_⟩
  refine h F U ρ0 σ H0 _ _ e R0 h2 fun rs vs ρ1 H1 R1 s1 q1 ⟨ap, h1⟩ => ?_
  obtain ⟨ds, ed, h1⟩ := wo_out h1
  subst e
  have q1 : RVs F U σ H1 (r :: rs) (.ref a :: vs) := .cons (q0.pres (s1.pres R0)) q1
  have s1 := s0.trans s1
  rw [List.append_nil]
  exact callN np R s1 R1 q1 ap ed h1 k E
/-- o.f, a property -/
def eProp (C : Addr) (md : Md) (sp : S3) (fo : T3E) : T3E := fun ρ Q => fo ρ fun r ρ1 => wd r ρ1 fun d => match d with
  | .obj C' fs => C' = C ∧ apart [md] [r] = true ∧ wo (argsD [md] [r] ρ1) fun ds => sp ds (fun d ds' => Q (.val d) (updE [md] [r] ds' ρ1)) (fun d ds' => Q (.val d) (updE [md] [r] ds' ρ1))
  | _ => False
theorem simProp {C : Addr} {E : XK} {md : Md} {sp : S3} {t : TE} {fo : T3E} (np : noPab [md] = true) (ho : SimE K t fo) : SimE K (tProp C (Lift K [md] sp) [] E t) (eProp C md sp fo) := by
  intro F U ρ σ H Q3 Q2 e R q k
  refine ho F U ρ σ H _ _ e R q fun r v ρ1 H1 R1 s1 q0 h0 => ?_
  obtain ⟨d, e1, h0⟩ := wd_out h0
  cases d <;> first | exact h0.elim | skip
  rename_i C' fs
  obtain ⟨ec, ap, h2⟩ := h0
  obtain ⟨ds, ed, h1⟩ := wo_out h2
  obtain ⟨a, dx, gs, rfl, z1, z2⟩ := q0.obj R1 e1
  refine ⟨a, dx, gs, rfl, ec ▸ z1, ?_⟩
  subst e
  have q1 : RVs F U σ H1 [r] [.ref a] := .cons q0 .nil
  exact callN np R s1 R1 q1 ap ed h1 k E
end
end L3

set_option Elab.async false
set_option linter.all false
set_option maxRecDepth 100000
namespace L3
open PySem PySem.Spec L2
open PyProof.Rows (b2i)
section
variable {F : Fr} {U U2 U' : US} {ρ ρ' ρ2 ρ3 ρ5 : En} {σ σ2 σ3 : L2.St} {H H' H2 H3 H5 : Hp} {K : PySem.W.Frag}

/-! ### comprehensions -/
def wipeE (ρ : En) : List Nat → En
  | [] => ρ
  | v :: vs => (wipeE ρ vs).set v .emp
def noW (ρ : En) (vs : List Nat) : Bool := vs.all fun v => match ρ[v]? with
  | some .emp => true
  | some (.shr _) => true
  | _ => false
def restE (ρ0 : En) : List Nat → En → En
  | [], ρ => ρ
  | v :: vs, ρ => match ρ0[v]? with
    | some s => (restE ρ0 vs ρ).set v s
    | none => restE ρ0 vs ρ
theorem wipeE_get (ρ : En) : ∀ (vs : List Nat) (j : Nat), (wipeE ρ vs)[j]? = if j ∈ vs then (ρ[j]?).map (fun _ => .emp) else ρ[j]?
  | [], j => by simp [wipeE]
  | v :: vs, j => by
    have hl : (wipeE ρ vs).length = ρ.length := by
      clear j
      induction vs with
      | nil => rfl
      | cons v vs ih => unfold wipeE; rw [List.length_set, ih]
    unfold wipeE
    by_cases e : v = j
    · subst e
      by_cases h : v < ρ.length
      · rw [List.getElem?_set_self (by rw [hl]; exact h)]
        simp [List.getElem?_eq_getElem h]
      · rw [List.getElem?_eq_none (by rw [List.length_set, hl]; omega)]
        simp [List.getElem?_eq_none (Nat.le_of_not_lt h)]
    · rw [List.getElem?_set_ne e, wipeE_get ρ vs j]
      have : (j ∈ v :: vs) = (j ∈ vs) := by simp [Ne.symm e]
      simp only [this]
theorem restE_len {ρ0 : En} : ∀ {vs : List Nat} {ρ : En}, (restE ρ0 vs ρ).length = ρ.length
  | [], _ => rfl
  | v :: vs, ρ => by
    unfold restE
    cases ρ0[v]? with
    | none => exact restE_len
    | some s => show ((restE ρ0 vs ρ).set v s).length = _; rw [List.length_set]; exact restE_len
theorem restE_get {ρ0 : En} : ∀ {vs : List Nat} {ρ : En} {j : Nat}, ρ.length = ρ0.length → (restE ρ0 vs ρ)[j]? = if j ∈ vs then ρ0[j]? else ρ[j]?
  | [], ρ, j, _ => by simp [restE]
  | v :: vs, ρ, j, hl => by
    unfold restE
    cases h : ρ0[v]? with
    | none =>
      show (restE ρ0 vs ρ)[j]? = _
      rw [restE_get hl]
      by_cases e : j = v
      · subst e
        have : ρ[j]? = none := List.getElem?_eq_none (by rw [hl]; exact List.getElem?_eq_none_iff.mp h)
        simp [h, this]
      · simp [e]
    | some s =>
      show ((restE ρ0 vs ρ).set v s)[j]? = _
      by_cases e : v = j
      · subst e
        rw [List.getElem?_set_self (by rw [restE_len, hl]; exact (List.getElem?_eq_some_iff.mp h).1)]
        simp [h]
      · rw [List.getElem?_set_ne e, restE_get hl]
        simp [Ne.symm e]
theorem noW_out {vs : List Nat} (h : noW ρ vs = true) {v : Nat} (hv : v ∈ vs) : ∃ s, ρ[v]? = some s ∧ s.locked = false ∧ s.isW = false ∧ (s = .emp ∨ ∃ d, s = .shr d) := by
  have := List.all_eq_true.mp h v hv
  cases e : ρ[v]? with
  | none => rw [e] at this; cases this
  | some s =>
    rw [e] at this
    cases s with
    | emp => exact ⟨.emp, rfl, rfl, rfl, .inl rfl⟩
    | shr d => exact ⟨.shr d, rfl, rfl, rfl, .inr ⟨d, rfl⟩⟩
    | _ => cases this
theorem wipe_idem {vs : List Nat} : wipe (wipe σ vs) vs = wipe σ vs := by
  apply List.ext_getElem?
  intro j
  rw [wipe_get, wipe_get]
  by_cases h : j ∈ vs
  · rw [if_pos h, if_pos h]
    cases σ[j]? <;> rfl
  · rw [if_neg h, if_neg h]
theorem Rel.wipe (R : Rel F U ρ σ H) : ∀ {vs : List Nat}, noW ρ vs = true → Rel F U (wipeE ρ vs) (L2.wipe σ vs) H
  | [], _ => R
  | v :: vs, h => by
    have h2 : noW ρ vs = true := by
      unfold noW at h ⊢
      rw [List.all_cons, Bool.and_eq_true] at h
      exact h.2
    have R2 := Rel.wipe R h2
    obtain ⟨s, hs, hl, _⟩ := noW_out h (List.mem_cons_self ..)
    have : ∃ s' : Sl, (wipeE ρ vs)[v]? = some s' ∧ s'.locked = false := by
      rw [wipeE_get, hs]
      by_cases e : v ∈ vs
      · rw [if_pos e]; exact ⟨.emp, rfl, rfl⟩
      · rw [if_neg e]; exact ⟨s, rfl, hl⟩
    obtain ⟨s', h3, h4⟩ := this
    exact R2.setEmp h3 h4
theorem Own_wipe {vs : List Nat} {a : Addr} (h : Own (wipeE ρ vs) (L2.wipe σ vs) a) : Own ρ σ a := by
  obtain ⟨j, s, o, h1, h2, h3⟩ := h
  rw [wipeE_get] at h1
  rw [wipe_get] at h2
  by_cases hj : j ∈ vs
  · rw [if_pos hj] at h1
    obtain ⟨s', _, e⟩ := Option.map_eq_some_iff.mp h1
    subst e
    exact absurd h3 (reg_noW rfl)
  · rw [if_neg hj] at h1 h2
    exact ⟨j, s, o, h1, h2, h3⟩
theorem wipe_out {vs : List Nat} (h : L2.wipe σ3 vs = L2.wipe σ vs) {j : Nat} (hj : j ∉ vs) : σ3[j]? = σ[j]? := by
  have := congrArg (·[j]?) h
  simp only [wipe_get, if_neg hj] at this
  exact this
theorem Rel.rest (R : Rel F U ρ σ H) (R5 : Rel F U ρ5 σ3 H5) (P : Pres H U H5 U) {vs : List Nat} (hw : L2.wipe σ3 vs = L2.wipe σ vs) (no : noW ρ vs = true) :
    Rel F U (restE ρ vs ρ5) σ H5 ∧ ∀ a, Own (restE ρ vs ρ5) σ a → Own ρ5 σ3 a := by
  have hl3 : σ3.length = σ.length := by
    have := congrArg List.length hw
    rwa [wipe_length, wipe_length] at this
  have hl : ρ5.length = ρ.length := by rw [R5.len, R.len, hl3]
  have own : ∀ a, Own (restE ρ vs ρ5) σ a → Own ρ5 σ3 a := fun a ⟨j, s, o, h1, h2, h3⟩ => by
    rw [restE_get hl] at h1
    by_cases hj : j ∈ vs
    · rw [if_pos hj] at h1
      obtain ⟨s', k1, _, k3, _⟩ := noW_out no hj
      rw [h1] at k1; cases k1
      exact absurd h3 (reg_noW k3)
    · rw [if_neg hj] at h1
      exact ⟨j, s, o, h1, by rw [wipe_out hw hj]; exact h2, h3⟩
  refine ⟨⟨by rw [restE_len, R5.len, hl3], fun j s o h1 h2 => ?_, fun j d o h1 h2 => ?_, fun i j s t o o' a h1 h2 h5 h6 h3 h4 => ?_, R5.tr, R5.keep, R5.ktr, R5.shar, R5.up, fun a h => R5.new a (own a h), fun j s l h1 h2 => ?_, R.wu, R.b0, R.u0⟩, own⟩
  · rw [restE_get hl] at h1
    by_cases hj : j ∈ vs
    · rw [if_pos hj] at h1
      obtain ⟨s', k1, _, _, k4⟩ := noW_out no hj
      rw [h1] at k1; cases k1
      rcases k4 with rfl | ⟨d, rfl⟩
      · trivial
      · obtain ⟨v, e, r⟩ := R.slot j _ o h1 h2
        exact ⟨v, e, Rp.pres P d v r⟩
    · rw [if_neg hj] at h1
      exact R5.slot j s o h1 (by rw [wipe_out hw hj]; exact h2)
  · rw [restE_get hl] at h1
    by_cases hj : j ∈ vs
    · rw [if_pos hj] at h1
      obtain ⟨s', k1, _, _, k4⟩ := noW_out no hj
      rw [h1] at k1; cases k1
      rcases k4 with k4 | ⟨d, k4⟩ <;> cases k4
    · rw [if_neg hj] at h1
      rcases R5.bor j d o h1 (by rw [wipe_out hw hj]; exact h2) with z | ⟨b, e, t, n⟩
      · exact .inl z
      · exact .inr ⟨b, e, t, fun x hx z => n x hx (own x z)⟩
  · have f : ∀ {j : Nat} {t : Sl}, (restE ρ vs ρ5)[j]? = some t → t.isW = true → ρ5[j]? = some t ∧ j ∉ vs := fun {j t} h1 h2 => by
      rw [restE_get hl] at h1
      by_cases hj : j ∈ vs
      · rw [if_pos hj] at h1
        obtain ⟨s', k1, _, k3, _⟩ := noW_out no hj
        rw [h1] at k1; cases k1
        rw [h2] at k3; cases k3
      · rw [if_neg hj] at h1; exact ⟨h1, hj⟩
    obtain ⟨g1, g2⟩ := f h1 h3.1
    obtain ⟨g3, g4⟩ := f h2 h4.1
    exact R5.inj i j s t o o' a g1 g3 (by rw [wipe_out hw g2]; exact h5) (by rw [wipe_out hw g4]; exact h6) h3 h4
  · rw [restE_get hl] at h1
    by_cases hj : j ∈ vs
    · rw [if_pos hj] at h1
      exact R.lock j s l h1 h2
    · rw [if_neg hj] at h1
      obtain ⟨z1, z2⟩ := R5.lock j s l h1 h2
      exact ⟨z1, by rw [← wipe_out hw hj]; exact z2⟩
def lcL (g : T3G) (tt : T3T) (te : T3E) (vs : List Nat) (Q : List D → En → Prop) : List D → List D → En → Prop
  | [], acc, ρ => Q acc ρ
  | x :: xs, acc, ρ => noW ρ vs = true ∧ g x (wipeE ρ vs) fun ρ2 => tt ρ2 fun b ρ3 =>
    if b = true then te ρ3 fun r ρ4 => match r with
      | .val d => acc.length < sizeLine ∧ lcL g tt te vs Q xs (acc ++ [d]) (restE ρ vs ρ4)
      | _ => False
    else lcL g tt te vs Q xs acc (restE ρ vs ρ3)
def oLc (w : T3I) (g : T3G) (tt : T3T) (te : T3E) (vs : List Nat) : T3O' := fun ρ Q => w ρ fun it ρ1 => lcL g tt te vs (fun ds ρ2 => okL ρ1 it.r ρ2 ∧ Q (.lst ds) (unlockE ρ1 it.r ρ2)) it.items [] (lockE ρ1 it.r)
theorem Own_unlockI {i : Nat} {a : Addr} (h : Own (unlockI ρ i ρ2) σ a) : Own ρ2 σ a ∨ Own ρ σ a := by
  by_cases w : ∃ s, ρ[i]? = some s ∧ s.isW = true
  · obtain ⟨s, h1, w⟩ := w
    rw [unlockI_w h1 w] at h
    obtain ⟨j, t, o, q1, q2, q3⟩ := h
    rcases set_get q1 with ⟨rfl, rfl, _⟩ | ⟨_, q1⟩
    · exact .inr ⟨i, _, o, h1, q2, q3⟩
    · exact .inl ⟨j, t, o, q1, q2, q3⟩
  · rw [unlockI_no fun s e => Bool.eq_false_iff.mpr fun z => w ⟨s, e, z⟩] at h
    exact .inl h
theorem Own_unlock {r : Rs} {a : Addr} (h : Own (unlockE ρ r ρ2) σ a) : Own ρ2 σ a ∨ Own ρ σ a := by
  cases r with
  | val d => exact .inl h
  | sl i => exact Own_unlockI h
  | bx i f b => exact Own_unlockI h
theorem simLc {wk : Bool} {wi : TI} {g : TG} {tt : TT} {te : TE} {vs ix : List Nat} {w3 : T3I} {g3 : T3G} {tt3 : T3T} {te3 : T3E} (hw : SimI K wk wi w3) (hg : SimG K wk g g3 ix) (ht : SimT K tt tt3) (he : SimE K te te3) (hix : ix.all (fun i => vs.contains i) = true) :
    SimEO K (tLc wi g tt te vs) (oLc w3 g3 tt3 te3 vs) := by
  have hix : ∀ i ∈ ix, i ∈ vs := fun i hi => by simpa using List.all_eq_true.mp hix i hi
  intro F U ρ σ H Q3 Q2 e R q k
  refine hw F U ρ σ H _ _ e R q fun J it ρ1 H1 R1 s1 jok h1 => ?_
  intro D hD
  have Rf := loopIn R1 it.r
  have noU1 : ¬ U D := R1.noU hD
  have Rg : Rel (F.at U (lockE ρ1 it.r) σ H1) (fun b => U b ∨ b = D) (lockE ρ1 it.r) σ (upd H1 D (.lst [])) := Rf.grow hD (ext_new hD) upd_same
  have noL : ¬ Own (lockE ρ1 it.r) σ D := fun z => noU1 (Rf.ownU z)
  let Fl : Fr := F.at U (lockE ρ1 it.r) σ H1
  have eK : Fl.K = K := e
  refine ⟨fun i m H' => m = it.items.length - i ∧ i ≤ it.items.length ∧ ∃ ρ' acc dacc, Rel Fl (fun b => U b ∨ b = D) ρ' σ H' ∧ H' D = some (.lst acc) ∧ RpAll F.K H' (fun b => U b ∨ b = D) dacc acc ∧ (∀ a, Own ρ' σ a → Own (lockE ρ1 it.r) σ a) ∧
    lcL g3 tt3 te3 vs (fun ds ρ2 => okL ρ1 it.r ρ2 ∧ Q3 (.lst ds) (unlockE ρ1 it.r ρ2)) (it.items.drop i) dacc ρ', ⟨_, rfl, Nat.zero_le _, lockE ρ1 it.r, [], [], Rg, upd_same, by simp only [RpAll], fun _ h => h, h1⟩, ?_⟩
  rintro i m H' ⟨rfl, hi, ρ', acc, dacc, R', hacc, racc, hown, q'⟩
  have jk := jok Fl (fun b => U b ∨ b = D) ρ' σ H' eK R' R'.pres0 (fun a o h n => R'.keep a o h n) i
  obtain ⟨j1, j2⟩ := jk
  have noD : ¬ Own ρ' σ D := fun z => noL (hown D z)
  by_cases hl : i < it.items.length
  · right
    obtain ⟨d, hd⟩ : ∃ d, it.items[i]? = some d := ⟨_, List.getElem?_eq_getElem hl⟩
    have ed : it.items.drop i = d :: it.items.drop (i + 1) := by
      rw [List.drop_eq_getElem_cons hl]
      congr 1
      rw [List.getElem?_eq_getElem hl] at hd
      exact Option.some.inj hd
    rw [ed] at q'
    obtain ⟨no, q'⟩ := q'
    obtain ⟨g1, g2⟩ := j1 d hd
    refine ⟨g1, fun H2 => ∃ ρ' acc dacc, Rel Fl (fun b => U b ∨ b = D) ρ' σ H2 ∧ H2 D = some (.lst acc) ∧ RpAll F.K H2 (fun b => U b ∨ b = D) dacc acc ∧ (∀ a, Own ρ' σ a → Own (lockE ρ1 it.r) σ a) ∧
      lcL g3 tt3 te3 vs (fun ds ρ2 => okL ρ1 it.r ρ2 ∧ Q3 (.lst ds) (unlockE ρ1 it.r ρ2)) (it.items.drop (i + 1)) dacc ρ', fun H2 z => ⟨it.items.length - (i + 1), by omega, rfl, hl, z⟩, fun x H3 hy => ?_⟩
    obtain ⟨ex, rx⟩ := g2 x H3 hy
    rw [← eK] at rx
    have Rx := R'.ext ex
    have Px : Pres H' (fun b => U b ∨ b = D) H3 (fun b => U b ∨ b = D) := fun a o h n => ⟨ex a o h, n⟩
    refine hg Fl (fun b => U b ∨ b = D) (wipeE ρ' vs) (L2.wipe σ vs) H3 d x _ _ eK (Rx.wipe no) rx q' fun ρ3 σ3 R3 o3 w3 q3 => ?_
    have w3 : L2.wipe σ3 vs = L2.wipe σ vs := (w3 vs hix).trans wipe_idem
    refine ⟨w3, ht Fl _ ρ3 σ3 H3 _ _ eK R3 q3 fun b ρ4 H4 R4 s4 q4 => ?_⟩
    have no3 : ¬ Own ρ3 σ3 D := fun z => noD (Own_wipe (o3 D z))
    have own3 : ∀ a, Own ρ3 σ3 a → Own (lockE ρ1 it.r) σ a := fun a z => hown a (Own_wipe (o3 a z))
    cases b with
    | false =>
      have P4 : Pres H3 (fun b => U b ∨ b = D) H4 (fun b => U b ∨ b = D) := s4.pres R3
      obtain ⟨R6, o6⟩ := Rx.rest R4 P4 w3 no
      exact ⟨_, acc, dacc, R6, s4.keep D _ (ex D _ hacc) no3, RpAll.pres P4 _ _ (RpAll.pres Px _ _ racc), fun a z => own3 a (s4.own a (o6 a z)), q4⟩
    | true =>
      refine he Fl _ ρ4 σ3 H4 _ _ eK R4 q4 fun r y ρ5 H5 R5 s5 q5 h5 => ?_
      have s45 := s4.trans s5
      have P5 : Pres H3 (fun b => U b ∨ b = D) H5 (fun b => U b ∨ b = D) := s45.pres R3
      obtain ⟨R6, o6⟩ := Rx.rest R5 P5 w3 no
      have own6 : ∀ a, Own (restE ρ' vs ρ5) σ a → Own (lockE ρ1 it.r) σ a := fun a z => own3 a (s45.own a (o6 a z))
      have no6 : ¬ Own (restE ρ' vs ρ5) σ D := fun z => noL (own6 D z)
      have racc5 := RpAll.pres P5 _ _ (RpAll.pres Px _ _ racc)
      cases r with
      | sl _ => exact h5.elim
      | bx _ _ _ => exact h5.elim
      | val d' =>
        have Pw : Pres H5 (fun b => U b ∨ b = D) (upd H5 D (.lst (acc ++ [y]))) (fun b => U b ∨ b = D) := fun a o h n => ⟨by rw [upd_ne (fun e => n (.inr e))]; exact h, n⟩
        refine ⟨acc, s45.keep D _ (ex D _ hacc) no3, by rw [racc5.len]; exact h5.1, restE ρ' vs ρ5, acc ++ [y], dacc ++ [d'], R6.poke no6 (.inr rfl) hD, upd_same, ?_, own6, h5.2⟩
        exact RpAll.pres Pw _ _ (racc5.app (.one q5))
  · left
    have e2 : i = it.items.length := by omega
    subst e2
    rw [List.drop_length] at q'
    obtain ⟨ok, q'⟩ := q'
    refine ⟨j2 (Nat.le_refl _), ?_⟩
    have Ro := loopOut R1 it.r R' ok
    refine k (.lst dacc) D _ H' Ro (s1.trans ⟨fun a o h n => R'.keep a o h fun z => n (Own_lockE R1 z), fun a z => ?_, fun a o h => R'.ktr a o h⟩) (back_none s1 hD) ⟨acc, hacc, racc⟩ q'
    rcases Own_unlock z with z | z
    · exact Own_lockE R1 (hown a z)
    · exact z
/-- the test of a comprehension without one -/
def fYes : T3T := fun ρ Q => Q true ρ

/-! ### t.index(x) -/
def tyTup (K : PySem.W.Frag) (x : V) (H : Hp) : Prop := ∃ a xs, x = .ref a ∧ (TupAt H a xs ∨ KT K a xs)
theorem ty_tup {X : Cx} : TyOk X "tuple" (tyTup X.K) := by
  intro pins σ H s x v I r ty
  obtain ⟨a, xs, rfl, h⟩ := ty
  cases r
  rcases h with ⟨o, hd, h⟩ | ⟨o, its, n, h1, h2, h3, h4, h5, h6⟩
  · obtain ⟨z1, z2⟩ := I.hok a _ h
    obtain ⟨_, its, _, ot, h3, h4, n, h5⟩ := z2
    rw [z1] at h3; cases h3
    refine ⟨⟨o, z1, h4⟩, fun b e => ?_⟩
    cases e
    exact ⟨o, z1, hd⟩
  · refine ⟨⟨o, I.kIn a o h1, h2⟩, fun b e => ?_⟩
    cases e
    exact ⟨o, I.kIn _ o h1, h3⟩
def rIndexT (K : PySem.W.Frag) : V → List V → Hp → VK → Prop := fun x xs H Q => ∃ (a : Addr) (y : V) (d : PyData) (ds : List PyData) (j : Nat) (z : PyData), x = V.ref a ∧ xs = [y] ∧ Dp K H (V.ref a) (.tuple ds) ∧ Dp K H y d ∧
  SeqAt.shaped (.tuple ds) = true ∧ SeqAt.shaped d = true ∧ ds[j]? = some z ∧ PyData.eqv z d = true ∧ (∀ (m : Nat) (z' : PyData), m < j → ds[m]? = some z' → PyData.eqv z' d = false) ∧ Q (.int (j : Nat)) H
theorem mt_indexT {X : Cx} (hu : X.A.units + 65 < cLine) : MtR X "tuple.index" (rIndexT X.K) := by
  intro pins s σ H x xs v us Q I rx rxs h
  obtain ⟨a, y, d, ds, j, z, rfl, rfl, hl, hy, sl, sd, hz, hzj, hno, q⟩ := h
  cases rx
  cases rxs with
  | cons ry rt =>
    rename_i uy ut
    cases rt
    obtain ⟨bs, r1⟩ := Dp.reads I d y uy hy ry
    have hxs : PyData.canLayAll0 ds = true := SeqAt.canLay_of_shaped sl
    have hroom : X.A.units + 1 + min (PyData.depthAll ds) d.depth < cLine := PyProof.Rows.room_in_shaped sd hu
    cases hl with
    | tup hs ha =>
      obtain ⟨its, rv, ⟨⟨cls, dd, data, sls⟩, ho, hc, n, hdt⟩, hlen⟩ := I.tuple hs
      simp only at hc hdt
      subst hc hdt
      obtain ⟨as, h4⟩ := Dp.readsAll I ds _ its ha rv
      have hn : its.length = ds.length := SeqAt.ReadsAll.length ds its as h4
      have hmap : its.map (SeqAt.readOf s.heap) = ds := SeqAt.readsAll_map ds its as hxs h4
      have hvl := rv.length
      have hsl := sizeLine_eq
      obtain ⟨hjd, _⟩ := List.getElem?_eq_some_iff.mp hz
      have hjl : j < its.length := by omega
      have hj : j < its.toArray.size := by simpa using hjl
      have at_ : ∀ (m : Nat) (hm : m < its.toArray.size) (z' : PyData), ds[m]? = some z' → SeqAt.readOf s.heap its.toArray[m] = z' := by
        intro m hm z' hz'
        have hml : m < its.length := by simpa using hm
        rw [← hmap, List.getElem?_map, List.getElem?_eq_getElem hml] at hz'
        have e1 : SeqAt.readOf s.heap its[m] = z' := Option.some.inj (show some (SeqAt.readOf s.heap its[m]) = some z' from hz')
        simpa using e1
      refine call_meets PySem.F.slot_tuple_index ⟨_, ho, rfl⟩ PySem.F.entry_tuple_index (PySem.F.args_tuple_index_2 _ _)
        (PySem.SeqAt.tuple_index2_found a its.toArray n dd sls uy (fun m => if h : m < its.toArray.size then PyData.eqv (SeqAt.readOf s.heap its.toArray[m]) d else false) j hj (Nat.zero_le _) hj ?_ ?_) ⟨ho, fun m hm => ?_, ?_⟩
      · show (if h : j < its.toArray.size then _ else _) = true
        rw [dif_pos hj, at_ j hj z hz]
        exact hzj
      · intro m hm _ hmj
        have hmd : m < ds.length := by omega
        have hz' : ds[m]? = some ds[m] := List.getElem?_eq_getElem hmd
        show (if h : m < its.toArray.size then _ else _) = false
        rw [dif_pos hm, at_ m hm _ hz']
        exact hno m _ hmj hz'
      · have := SeqAt.items_eqAt (vs := its.toArray) (show ReadsAll s.heap its.toArray.toList ds as from h4) r1 hxs (SeqAt.canLay_of_shaped sd) hroom _ (Array.getElem_mem hm)
        rw [dif_pos hm]
        exact this
      · exact ⟨.int (j : Nat), H, I.tok _, ⟨_, rfl⟩, q⟩
def eTIdx (f : T3E) (g : T3A) : T3E := fun ρ Q => f ρ fun r ρ1 => wd r ρ1 fun d => match d with
  | .tup ds => g ρ1 fun rs ρ2 => w1 rs ρ2 fun x => ((D.tup ds).shp = true ∧ x.shp = true) ∧ wo (ds.findIdx? fun z => D.eqv z x) fun j => Q (.val (.int (j : Nat))) ρ2
  | _ => False
theorem toPs_get : ∀ {ds : List D} {j : Nat}, (D.toPs ds)[j]? = (ds[j]?).map D.toP
  | [], j => by simp [D.toPs]
  | d :: ds, 0 => by simp [D.toPs]
  | d :: ds, j + 1 => by simp only [D.toPs, List.getElem?_cons_succ]; exact toPs_get
theorem oks_get : ∀ {ds : List D} {j : Nat} {d : D}, D.oks ds = true → ds[j]? = some d → d.ok = true
  | [], j, d, _, h => by simp at h
  | x :: ds, 0, d, h, e => by
    simp only [D.oks, Bool.and_eq_true] at h
    simp at e; subst e; exact h.1
  | x :: ds, j + 1, d, h, e => by
    simp only [D.oks, Bool.and_eq_true] at h
    exact oks_get h.2 (by simpa using e)
theorem tyTup_of {ds : List D} {v : V} (h : Rp K H U (.tup ds) v) : tyTup K v H := by
  simp only [Rp] at h
  obtain ⟨a, vs, rfl, h1, _⟩ := h
  rcases h1 with ⟨h1, _⟩ | h1
  · exact ⟨a, vs, rfl, .inl h1⟩
  · exact ⟨a, vs, rfl, .inr h1⟩
theorem simTIdx {t : TE} {u : TA} {f : T3E} {g : T3A} (h : SimE K t f) (h' : SimA K u g) : SimE K (tMG (tyTup K) (rIndexT K) t u) (eTIdx f g) := by
  intro F U ρ σ H Q3 Q2 e R q k
  refine h F U ρ σ H _ _ e R q fun r v ρ1 H1 R1 s1 q1 h1 => ?_
  obtain ⟨d, ed, h1⟩ := wd_out h1
  cases d <;> first | exact h1.elim | skip
  rename_i ds
  subst e
  obtain ⟨a, ws, rfl, z1, z2, z3⟩ := q1.tup R1 ed
  refine ⟨tyTup_of z3, h' F U ρ1 σ H1 _ _ rfl R1 h1 fun rs vs ρ2 H2 R2 s2 q2 h2 => ?_⟩
  obtain ⟨x, w, dx, rfl, rfl, q3, ex, ⟨o1, o2⟩, h2⟩ := w1_out q2 h2
  obtain ⟨j, ej, h2⟩ := wo_out h2
  have ok1 : (D.tup ds).ok = true := by
    have := o1; unfold D.shp at this; rw [Bool.and_eq_true] at this; exact this.1
  have ok2 : dx.ok = true := by
    have := o2; unfold D.shp at this; rw [Bool.and_eq_true] at this; exact this.1
  have oks : D.oks ds = true := by simpa only [D.ok] using ok1
  have dp1 : Dp F.K H2 (.ref a) (.tuple (D.toPs ds)) := by
    have := Rp.dp (.tup ds) (.ref a) ok1 (Rp.pres (s2.pres R1) _ _ z3)
    simpa only [D.toP] using this
  have dp2 := q3.dp R2 ex ok2
  obtain ⟨hj, hj2⟩ := List.findIdx?_eq_some_iff_getElem.mp ej
  have hg : ds[j]? = some ds[j] := List.getElem?_eq_getElem hj
  refine ⟨a, w, dx.toP, D.toPs ds, j, ds[j].toP, rfl, rfl, dp1, dp2, by simpa only [D.toP] using shp_shaped o1, shp_shaped o2, by rw [toPs_get, hg]; rfl, ?_, fun m z' hm hz => ?_, k (.val _) _ ρ2 H2 R2 (s1.trans s2) rvI h2⟩
  · rw [eqv_toP _ _ (oks_get oks hg) ok2]; exact hj2.1
  · rw [toPs_get] at hz
    obtain ⟨y, hy, rfl⟩ := Option.map_eq_some_iff.mp hz
    rw [eqv_toP _ _ (oks_get oks hy) ok2]
    have := hj2.2 m hm
    have e2 : ds[m]'(by omega) = y := by
      have := (List.getElem?_eq_some_iff.mp hy).2
      exact this
    rw [e2] at this
    exact Bool.not_eq_true _ |>.mp this

/-! ### operators of own classes -/
def rOwnI (K : PySem.W.Frag) (C : Addr) (sp : Sp) : R2 := fun x y H Q => ∃ a dx fs b C' dy gs, x = .ref a ∧ y = .ref b ∧ H a = some (.ins C dx fs) ∧ H b = some (.ins C' dy gs) ∧ PySem.W.notFirst K C (.ref C') = true ∧ sp [x, y] H Q E0
theorem op_ownI {X : Cx} {C g : Addr} {op : CmpOp} {k : Nat} {fd : FuncData} {ps : List Str} {sp : Sp} (hop : ∀ a b, compareOp op a b = richCompare op a b) (hs : PySem.W.findIn X.K (.ref C) (cmpInfo op).2.1 = some (some (.ref g))) (hf : PySem.W.isFn X.K (.ref g) = true)
    (Fn : FnOk X.prog X.w X.K X.mg X.base CX0 k g fd ps sp) (hb : Binds X.K fd ps []) (hr : Room k X.A) : OpR X (compareOp op) (rOwnI X.K C sp) := by
  intro pins s σ H x y v u Q I rx ry h
  obtain ⟨a, dx, fs, b, C', dy, gs, rfl, rfl, ha, hb', hn, q⟩ := h
  cases (show v = Value.ref a from rx)
  cases (show u = Value.ref b from ry)
  obtain ⟨mA, O, _⟩ := ins_get I.hok ha
  obtain ⟨od, J, _⟩ := O.look
  obtain ⟨mB, O', _⟩ := ins_get I.hok hb'
  obtain ⟨od', J', _⟩ := O'.look
  obtain ⟨m, hF⟩ := I.fr
  rw [hop]
  refine PySem.W.cmp_K (op := op) (tb := .ref C') hr.units0 hF I.ok.mod.kin J J'.type hn hs hf ?_
  refine wpAny_mono (run_fn (us := [.ref a, .ref b]) (vs := [.ref a, .ref b]) Fn hr hb .nil pass0 I (.cons rfl (.cons rfl .nil)) q) (fun w s' z => ?_) fun _ _ x => x
  obtain ⟨z', H', I', rz, qz⟩ := z
  exact SlX.cmpback rz ⟨z', H', I', rz, qz⟩
def oOwn (C : Addr) (ms : List Md) (sp : S3) (x y : Rs) (ρ : En) (Q : Rs → En → Prop) : Prop := wd x ρ fun dx => wd y ρ fun dy => match dx, dy with
  | .obj C' _, .obj C'' _ => (C' = C ∧ C'' = C) ∧ apart ms [x, y] = true ∧ wo (argsD ms [x, y] ρ) fun ds => sp ds (fun d ds' => Q (.val d) (updE ms [x, y] ds' ρ)) (fun d ds' => Q (.val d) (updE ms [x, y] ds' ρ))
  | _, _ => False
theorem simOwn {C : Addr} {ms : List Md} {sp : S3} (np : noPab ms = true) : SimR2 K (rOwnI K C (Lift K ms sp)) (oOwn C ms sp) := by
  intro F U ρ1 σ H1 x y rx ry Q3 Q2 e R1 hx hy h k
  obtain ⟨dx, ex, h1⟩ := wd_out h
  obtain ⟨dy, ey, h2⟩ := wd_out h1
  clear h h1
  cases dx <;> first | exact h2.elim | skip
  cases dy <;> first | exact h2.elim | skip
  obtain ⟨⟨e1, e2⟩, ap, h3⟩ := h2
  obtain ⟨ds, ed, h1⟩ := wo_out h3
  obtain ⟨a, da, ga, rfl, z1, z2⟩ := hx.obj R1 ex
  obtain ⟨b, db, gb, rfl, y1, y2⟩ := hy.obj R1 ey
  subst e
  refine ⟨a, da, ga, b, C, db, gb, rfl, rfl, e1 ▸ z1, e2 ▸ y1, by simp [PySem.W.notFirst], ?_⟩
  have q1 : RVs F U σ H1 [rx, ry] [.ref a, .ref b] := .cons hx (.cons hy .nil)
  exact callN np R1 (.refl R1) R1 q1 ap ed h1 k E0
/-- two readings of one operator -/
def rOr (r r' : R2) : R2 := fun x y H Q => r x y H Q ∨ r' x y H Q
theorem simOrL {r r' : R2} {f : Rs → Rs → En → (Rs → En → Prop) → Prop} (h : SimR2 K r f) : SimR2 K (fun x y H Q => r x y H Q ∨ r' x y H Q) f := fun F U ρ σ H x y rx ry Q3 Q2 e R h1 h2 q k => .inl (h F U ρ σ H x y rx ry Q3 Q2 e R h1 h2 q k)
theorem simOrR {r r' : R2} {f : Rs → Rs → En → (Rs → En → Prop) → Prop} (h : SimR2 K r' f) : SimR2 K (fun x y H Q => r x y H Q ∨ r' x y H Q) f := fun F U ρ σ H x y rx ry Q3 Q2 e R h1 h2 q k => .inr (h F U ρ σ H x y rx ry Q3 Q2 e R h1 h2 q k)
/-- isinstance(x, C), x an instance of the class at C itself -/
def cIsC (C : Addr) (rs : List Rs) (ρ : En) (Q : Rs → En → Prop) : Prop := match rs with
  | [x, y] => wd x ρ fun dx => wd y ρ fun dy => match dx, dy with
    | .obj C' _, .cls C'' => (C' = C ∧ C'' = C) ∧ Q (.val (.bl true)) ρ
    | _, _ => False
  | _ => False
theorem simIsC {C : Addr} : SimCR K (fun xs H Q => ∃ a dx fs, xs = [.ref a, .ref C] ∧ H a = some (.ins C dx fs) ∧ Q (.bl true) H) (cIsC C) := by
  intro F U ρ σ H vs rs Q3 Q2 e R q h k
  unfold cIsC at h
  split at h
  · rename_i x y
    cases q with
    | cons q1 qs =>
      cases qs with
      | cons q2 qs =>
        cases qs
        obtain ⟨dx, ex, h1⟩ := wd_out h
        obtain ⟨dy, ey, h2⟩ := wd_out h1
        clear h h1
        cases dx <;> first | exact h2.elim | skip
        cases dy <;> first | exact h2.elim | skip
        obtain ⟨⟨e1, e2⟩, h3⟩ := h2
        obtain ⟨a, da, ga, rfl, z1, z2⟩ := q1.obj R ex
        rcases q2.get R ey with z | ⟨b, _, z⟩
        · simp only [Rp] at z
          subst z
          exact ⟨a, da, ga, by rw [e2], e1 ▸ z1, k (.val _) _ ρ H R (.refl R) rvB h3⟩
        · exact z.elim
  · exact h.elim
theorem rp_cls {C : Addr} : ∀ H U, Rp K H U (.cls C) (.ref C) := fun H U => by simp only [Rp]
end
end L3

set_option Elab.async false
set_option linter.all false
set_option maxRecDepth 100000
namespace L3
open PySem PySem.Spec L2
open PyProof.Rows (b2i)

/-! ### syntax and its reading over data, in a family of contexts -/
structure QE {ι : Type} (K : PySem.W.Frag) (X : ι → Cx) (e : Expr) (f : T3E) : Prop where
  ex : ∃ t, (∀ i, PE (X i) e t) ∧ SimE K t f
structure QO {ι : Type} (K : PySem.W.Frag) (X : ι → Cx) (e : Expr) (f : T3O') : Prop where
  ex : ∃ t, (∀ i, PE (X i) e t) ∧ SimEO K t f
structure QT {ι : Type} (K : PySem.W.Frag) (X : ι → Cx) (e : Expr) (f : T3T) : Prop where
  ex : ∃ t, (∀ i, PT (X i) e t) ∧ SimT K t f
structure QW {ι : Type} (K : PySem.W.Frag) (X : ι → Cx) (e : Expr) (f : T3T) : Prop where
  ex : ∃ t, (∀ i, PW (X i) e t) ∧ SimT K t f
structure QA {ι : Type} (K : PySem.W.Frag) (X : ι → Cx) (es : List Expr) (f : T3A) : Prop where
  ex : ∃ t, (∀ i, PA (X i) es t) ∧ SimA K t f
structure QS {ι : Type} (K : PySem.W.Frag) (X : ι → Cx) (st : Stmt) (f : T3S) : Prop where
  ex : ∃ t, (∀ i, PS (X i) st t) ∧ SimS K t f
structure QB {ι : Type} (K : PySem.W.Frag) (X : ι → Cx) (st : List Stmt) (f : T3S) : Prop where
  ex : ∃ t, (∀ i, PSs (X i) st t) ∧ SimS K t f
structure QI {ι : Type} (K : PySem.W.Frag) (X : ι → Cx) (wk : Bool) (tg iter : Expr) (f : T3I) : Prop where
  ex : ∃ t, (∀ i, PI (X i) tg iter t) ∧ SimI K wk t f
structure QG {ι : Type} (K : PySem.W.Frag) (X : ι → Cx) (wk : Bool) (tg : Expr) (f : T3G) (ix : List Nat) : Prop where
  ex : ∃ t, (∀ i, PG (X i) tg t) ∧ SimG K wk t f ix
structure QGs {ι : Type} (K : PySem.W.Frag) (X : ι → Cx) (n : Nat) (tg : List Expr) (f : List D → En → (En → Prop) → Prop) (ix : List Nat) : Prop where
  ex : ∃ t, (∀ i, PGs (X i) tg t) ∧ SimGs K t f ix
structure QP {ι : Type} (K : PySem.W.Frag) (X : ι → Cx) (e : Option Expr) (f : T3O) : Prop where
  ex : ∃ t, (∀ i, PO (X i) e t) ∧ SimO K t f
structure QTs {ι : Type} (K : PySem.W.Frag) (X : ι → Cx) (es : List Expr) (f : T3T) : Prop where
  ex : ∃ t, (∀ i, PTs (X i) es t) ∧ SimT K t f

section
variable {ι : Type} {X : ι → Cx} {K : PySem.W.Frag} {pos p p2 apos cpos : Pos} {e a b c d' : Expr} {es rest : List Expr} {f g h : T3E} {x : Str}

/-! ### names and constants -/
theorem qv (n : Nat) (hN : ∀ i, (X i).N[n]? = some x := by exact fun _ => rfl) (hv : ∀ i, Vis (X i).env.scope x := by first | exact fun _ => Or.inl rfl | exact fun _ => Or.inr (Or.inl rfl) | exact fun _ => Or.inr (Or.inr rfl))
    (hd : (x == ("__debug__" : Str)) = false := by decide) (hcd : (x == ("__classdict__" : Str)) = false := by decide) : QE K X (.Name x pos) (eVar n) := ⟨_, fun i => pe_var (hN i) (hv i) hd hcd, simVar n⟩
theorem qint {i : Int} {j : Nat} : QE K X (.Constant (.int i) j pos) (eC (.int i)) := ⟨_, fun _ => pe_int, simC fun H U => rp_int⟩
theorem qbl {i : Bool} {j : Nat} : QE K X (.Constant (.bool i) j pos) (eC (.bl i)) := ⟨_, fun _ => pe_bl, simC fun H U => rp_bl⟩
theorem qstr {i : Str} {j : Nat} : QE K X (.Constant (.str i) j pos) (eC (.str i)) := ⟨_, fun _ => pe_str, simC fun H U => rp_str⟩
theorem qnon {j : Nat} : QE K X (.Constant .none j pos) (eC .non) := ⟨_, fun _ => pe_non, simC fun H U => rp_non⟩
/-- a name of the module -/
theorem qglob {v : V} {d : D} (hm : ∀ i, ∃ u, (X i).mg x = some u ∧ RelV v u) (hr : ∀ H U, Rp K H U d v) (hg : ∀ i, Gl (X i) x := by exact fun _ => rfl) (hd : (x == ("__debug__" : Str)) = false := by decide) : QE K X (.Name x pos) (eC d) :=
  ⟨tC v, fun i => let ⟨_, h1, h2⟩ := hm i; pe_glob (hg i) h1 h2 hd, simC hr⟩
/-- a built-in class as a value -/
theorem rp_ty {T : String} : ∀ H U, Rp K H U (.ty T) (.ty T) := fun H U => by simp only [Rp]
theorem qty {T : String} (hm : ∀ i, (X i).mg x = none) (hv : bootBuiltins x = some (.type T) := by decide +kernel) (hg : ∀ i, Gl (X i) x := by exact fun _ => rfl) (hn : x ≠ "__name__" := by decide) (hd : (x == ("__debug__" : Str)) = false := by decide) : QE K X (.Name x pos) (eC (.ty T)) :=
  ⟨tC (.ty T), fun i => pe_bltn (hg i) (hm i) hv rfl hn hd, simC rp_ty⟩

/-! ### operators -/
theorem qop {op : Operator} {r : R2} {r3 : Rs → Rs → En → (Rs → En → Prop) → Prop} (ho : ∀ i, OpR (X i) (binaryOp op) r) (hs : SimR2 K r r3) (ha : QE K X a f) (hb : QE K X b g) : QE K X (.BinOp a op b pos) (eOp r3 f g) :=
  let ⟨_, h1, h2⟩ := ha.ex; let ⟨_, h3, h4⟩ := hb.ex; ⟨_, fun i => pe_op (ho i) (h1 i) (h3 i), simOp hs h2 h4⟩
theorem qadd (ha : QE K X a f) (hb : QE K X b g) (hK : ∀ i, (X i).K = K := by exact fun _ => rfl) : QE K X (.BinOp a .Add b pos) (eOp oAdd f g) := qop (r := r2Add K) (fun i => hK i ▸ op_addP) simAdd ha hb
theorem qsub (ha : QE K X a f) (hb : QE K X b g) : QE K X (.BinOp a .Sub b pos) (eOp (oI0 fun i j => .int (i - j)) f g) := qop (fun _ => op_sub) (simI0 fun _ _ _ _ => rp_int) ha hb
theorem qmul (ha : QE K X a f) (hb : QE K X b g) : QE K X (.BinOp a .Mult b pos) (eOp oMul f g) := qop (fun _ => op_mulP) simMul ha hb
theorem qmod (ha : QE K X a f) (hb : QE K X b g) : QE K X (.BinOp a .Mod b pos) (eOp (oI (fun _ j => 0 < j) fun i j => .int (i % j)) f g) := qop (fun _ => op_mod) (simI fun _ _ _ _ => rp_int) ha hb
theorem qfdiv (ha : QE K X a f) (hb : QE K X b g) : QE K X (.BinOp a .FloorDiv b pos) (eOp (oI CDiv fun i j => .int (i / j)) f g) := qop (fun _ => op_fdiv) (simI fun _ _ _ _ => rp_int) ha hb
theorem qpow (ha : QE K X a f) (hb : QE K X b g) : QE K X (.BinOp a .Pow b pos) (eOp (oI CPow fun i j => .int (i ^ j.toNat)) f g) := qop (fun _ => op_pow) (simI fun _ _ _ _ => rp_int) ha hb
theorem qshr (ha : QE K X a f) (hb : QE K X b g) : QE K X (.BinOp a .RShift b pos) (eOp (oI (fun _ j => 0 ≤ j) fun i j => .int (i / 2 ^ j.toNat)) f g) := qop (fun _ => op_shr) (simI fun _ _ _ _ => rp_int) ha hb
theorem qand (ha : QE K X a f) (hb : QE K X b g) : QE K X (.BinOp a .BitAnd b pos) (eOp (oI0 fun i j => .int (Builtin.bitAnd i j)) f g) := qop (fun _ => op_and) (simI0 fun _ _ _ _ => rp_int) ha hb
/-! ### comparisons -/
theorem qcmp {op : CmpOp} {r : R2} {r3 : Rs → Rs → En → (Rs → En → Prop) → Prop} (ho : ∀ i, OpR (X i) (compareOp op) r) (hs : SimR2 K r r3) (ha : QE K X a f) (hb : QE K X b g) (hm : behindInMarks op b = false) : QE K X (.Compare a [op] [b] pos) (eOp r3 f g) :=
  let ⟨_, h1, h2⟩ := ha.ex; let ⟨_, h3, h4⟩ := hb.ex; ⟨_, fun i => pe_cmpR (ho i) (h1 i) (h3 i) hm, simOp hs h2 h4⟩
theorem tcmp {op : CmpOp} {r : R2} {r3 : Rs → Rs → En → (Rs → En → Prop) → Prop} (ho : ∀ i, OpR (X i) (compareOp op) r) (hs : SimR2 K r r3) (ha : QE K X a f) (hb : QE K X b g) (hm : behindInMarks op b = false) : QT K X (.Compare a [op] [b] pos) (fTst (eOp r3 f g)) :=
  let ⟨_, h1, h2⟩ := ha.ex; let ⟨_, h3, h4⟩ := hb.ex; ⟨_, fun i => pt_cmpR (ho i) (h1 i) (h3 i) hm, simTst (simOp hs h2 h4)⟩
/-- a comparison's operator: its rule and its reading -/
structure QC {ι : Type} (K : PySem.W.Frag) (X : ι → Cx) (op : CmpOp) (r3 : Rs → Rs → En → (Rs → En → Prop) → Prop) : Prop where
  ex : ∃ r, (∀ i, OpR (X i) (compareOp op) r) ∧ SimR2 K r r3
abbrev oLt := oI0 fun i j => .bl (decide (i < j))
abbrev oLe := oI0 fun i j => .bl (decide (i ≤ j))
abbrev oGt := oI0 fun i j => .bl (decide (j < i))
abbrev oGe := oI0 fun i j => .bl (decide (j ≤ i))
theorem cLt : QC K X .Lt oLt := ⟨_, fun _ => op_lt, simI0 fun _ _ _ _ => rp_bl⟩
theorem cLe : QC K X .LtE oLe := ⟨_, fun _ => op_le, simI0 fun _ _ _ _ => rp_bl⟩
theorem cGt : QC K X .Gt oGt := ⟨_, fun _ => op_gt, simI0 fun _ _ _ _ => rp_bl⟩
theorem cGe : QC K X .GtE oGe := ⟨_, fun _ => op_ge, simI0 fun _ _ _ _ => rp_bl⟩
theorem hu65 {A : Around} {k : Nat} (hr : Room k A) : A.units + 65 < cLine := by have := hr.un; omega
theorem cEq {k : Nat} (hR : ∀ i, Room k (X i).A) (hK : ∀ i, (X i).K = K := by exact fun _ => rfl) : QC K X .Eq (oEq false) := ⟨rEqD K, fun i => hK i ▸ op_eqD (hR i).units, simEq⟩
theorem cNe {k : Nat} (hR : ∀ i, Room k (X i).A) (hK : ∀ i, (X i).K = K := by exact fun _ => rfl) : QC K X .NotEq (oEq true) := ⟨rNeD K, fun i => hK i ▸ op_neD (hR i).units, simNe⟩
theorem cIn {k : Nat} (hR : ∀ i, Room k (X i).A) (hK : ∀ i, (X i).K = K := by exact fun _ => rfl) : QC K X .In (oIn false) := ⟨rInS K false, fun i => hK i ▸ op_inS (hu65 (hR i)), simIn false⟩
theorem cNotIn {k : Nat} (hR : ∀ i, Room k (X i).A) (hK : ∀ i, (X i).K = K := by exact fun _ => rfl) : QC K X .NotIn (oIn true) := ⟨rInS K true, fun i => hK i ▸ op_notInS (hu65 (hR i)), simIn true⟩
theorem cInT : QC K X .In (oInT false) := ⟨_, fun _ => op_inT, simInT false⟩
theorem cNotInT : QC K X .NotIn (oInT true) := ⟨_, fun _ => op_notInT, simInT true⟩
theorem cIsN : QC K X .Is (oIsN false) := ⟨_, fun _ => op_isN, simIsN⟩
theorem cNotN : QC K X .IsNot (oIsN true) := ⟨_, fun _ => op_notN, simNotN⟩
theorem q2 {op : CmpOp} {r3 : Rs → Rs → En → (Rs → En → Prop) → Prop} (ho : QC K X op r3) (ha : QE K X a f) (hb : QE K X b g) (hm : behindInMarks op b = false := by first | exact nomark _ | rfl) : QE K X (.Compare a [op] [b] pos) (eOp r3 f g) :=
  let ⟨_, h1, h2⟩ := ho.ex; qcmp h1 h2 ha hb hm
theorem t2 {op : CmpOp} {r3 : Rs → Rs → En → (Rs → En → Prop) → Prop} (ho : QC K X op r3) (ha : QE K X a f) (hb : QE K X b g) (hm : behindInMarks op b = false := by first | exact nomark _ | rfl) : QT K X (.Compare a [op] [b] pos) (fTst (eOp r3 f g)) :=
  let ⟨_, h1, h2⟩ := ho.ex; tcmp h1 h2 ha hb hm
theorem q3c {op op' : CmpOp} {r3 r3' : Rs → Rs → En → (Rs → En → Prop) → Prop} (ho : QC K X op r3) (ho' : QC K X op' r3') (ha : QE K X a f) (hb : QE K X b g) (hc : QE K X c h) (hm : lastMarks [op, op'] [b, c] = false := by with_unfolding_all rfl) :
    QE K X (.Compare a [op, op'] [b, c] pos) (eChain r3 r3' f g h) :=
  let ⟨_, h1, h2⟩ := ho.ex; let ⟨_, h1', h2'⟩ := ho'.ex; let ⟨_, h3, h4⟩ := ha.ex; let ⟨_, h5, h6⟩ := hb.ex; let ⟨_, h7, h8⟩ := hc.ex
  ⟨_, fun i => pe_chain (h1 i) (h1' i) (h3 i) (h5 i) (h7 i) hm, simChain h2 h2' h4 h6 h8⟩
theorem t3c {op op' : CmpOp} {r3 r3' : Rs → Rs → En → (Rs → En → Prop) → Prop} (ho : QC K X op r3) (ho' : QC K X op' r3') (ha : QE K X a f) (hb : QE K X b g) (hc : QE K X c h) (hm : lastMarks [op, op'] [b, c] = false := by with_unfolding_all rfl) :
    QT K X (.Compare a [op, op'] [b, c] pos) (fTst (eChain r3 r3' f g h)) :=
  let ⟨_, h1, h2⟩ := ho.ex; let ⟨_, h1', h2'⟩ := ho'.ex; let ⟨_, h3, h4⟩ := ha.ex; let ⟨_, h5, h6⟩ := hb.ex; let ⟨_, h7, h8⟩ := hc.ex
  ⟨_, fun i => pt_chain (h1 i) (h1' i) (h3 i) (h5 i) (h7 i) hm, simTst (simChain h2 h2' h4 h6 h8)⟩
/-- k in d, d a dict -/
theorem qdin {k : Nat} (hR : ∀ i, Room k (X i).A) (hi : QE K X a f) (ho : QE K X b g) (hm : behindInMarks .In b = false := by rfl) : QE K X (.Compare a [.In] [b] pos) (fDIn false f g) :=
  let ⟨_, h1, h2⟩ := hi.ex; let ⟨_, h3, h4⟩ := ho.ex; ⟨_, fun i => pe_cmp (pc_din (hu_of (hR i)) (h1 i) (h3 i)) hm, simDIn h4 h2⟩
theorem qdnotin {k : Nat} (hR : ∀ i, Room k (X i).A) (hi : QE K X a f) (ho : QE K X b g) (hm : behindInMarks .NotIn b = false := by rfl) : QE K X (.Compare a [.NotIn] [b] pos) (fDIn true f g) :=
  let ⟨_, h1, h2⟩ := hi.ex; let ⟨_, h3, h4⟩ := ho.ex; ⟨_, fun i => pe_cmp (pc_dnotin (hu_of (hR i)) (h1 i) (h3 i)) hm, simDNotIn h4 h2⟩
theorem tdin {k : Nat} (hR : ∀ i, Room k (X i).A) (hi : QE K X a f) (ho : QE K X b g) (hm : behindInMarks .In b = false := by rfl) : QT K X (.Compare a [.In] [b] pos) (fTst (fDIn false f g)) :=
  let ⟨_, h1, h2⟩ := hi.ex; let ⟨_, h3, h4⟩ := ho.ex; ⟨_, fun i => pt_cmp (pc_din (hu_of (hR i)) (h1 i) (h3 i)) hm, simTB (simDIn h4 h2)⟩
theorem tdnotin {k : Nat} (hR : ∀ i, Room k (X i).A) (hi : QE K X a f) (ho : QE K X b g) (hm : behindInMarks .NotIn b = false := by rfl) : QT K X (.Compare a [.NotIn] [b] pos) (fTst (fDIn true f g)) :=
  let ⟨_, h1, h2⟩ := hi.ex; let ⟨_, h3, h4⟩ := ho.ex; ⟨_, fun i => pt_cmp (pc_dnotin (hu_of (hR i)) (h1 i) (h3 i)) hm, simTB (simDNotIn h4 h2)⟩

/-! ### and, or, not, if -/
theorem q1b {op : BoolOp} (ha : QE K X a f) : QE K X (.BoolOp op [a] pos) f := let ⟨_, h1, h2⟩ := ha.ex; ⟨_, fun i => pe_one (h1 i), h2⟩
theorem qAnd (ha : QE K X a f) (hb : QE K X (.BoolOp .And (b :: rest) pos) g) (hK : ∀ i, (X i).K = K := by exact fun _ => rfl) : QE K X (.BoolOp .And (a :: b :: rest) pos) (eAnd f g) :=
  let ⟨t, h1, h2⟩ := ha.ex; let ⟨u, h3, h4⟩ := hb.ex; ⟨tAndT K t u, fun i => hK i ▸ pe_andT (h1 i) (h3 i), simAndV h2 h4⟩
theorem qOr (ha : QE K X a f) (hb : QE K X (.BoolOp .Or (b :: rest) pos) g) (hK : ∀ i, (X i).K = K := by exact fun _ => rfl) : QE K X (.BoolOp .Or (a :: b :: rest) pos) (eOr f g) :=
  let ⟨t, h1, h2⟩ := ha.ex; let ⟨u, h3, h4⟩ := hb.ex; ⟨tOrT K t u, fun i => hK i ▸ pe_orT (h1 i) (h3 i), simOrV h2 h4⟩
theorem qNot (ha : QE K X a f) (hK : ∀ i, (X i).K = K := by exact fun _ => rfl) : QE K X (.UnaryOp .Not a pos) (eNot f) :=
  let ⟨t, h1, h2⟩ := ha.ex; ⟨tNotT K t, fun i => hK i ▸ pe_notT (h1 i), simNotV h2⟩
variable {ft gt : T3T}
/-- a value as a test: True or False; of any kind -/
theorem tval (ha : QE K X a f) (he : ∀ i whole, isTrue a (X i).env whole = (do let v ← whole; standAt a.pos; holding [v] (truthy v)) := by exact fun _ _ => rfl) : QT K X a (fTst f) := let ⟨_, h1, h2⟩ := ha.ex; ⟨_, fun i => pt_val (h1 i) (he i), simTB h2⟩
theorem ttru (ha : QE K X a f) (he : ∀ i whole, isTrue a (X i).env whole = (do let v ← whole; standAt a.pos; holding [v] (truthy v)) := by exact fun _ _ => rfl) (hK : ∀ i, (X i).K = K := by exact fun _ => rfl) : QT K X a (fTru f) :=
  let ⟨t, h1, h2⟩ := ha.ex; ⟨fun σ H Q => t σ H fun x H' => ∃ k, TruV K x H' k ∧ Q k H', fun i => hK i ▸ pt_truth (h1 i) (he i), simTru h2⟩
theorem tNot' (ha : QT K X a ft) : QT K X (.UnaryOp .Not a pos) (fNot ft) := let ⟨_, h1, h2⟩ := ha.ex; ⟨_, fun i => pt_not (h1 i), simNot h2⟩
theorem wa1 (ha : QT K X a ft) : QW K X (.BoolOp .And [a] pos) ft := let ⟨_, h1, h2⟩ := ha.ex; ⟨_, fun i => pw_and1 (h1 i), h2⟩
theorem wo1 (ha : QT K X a ft) : QW K X (.BoolOp .Or [a] pos) ft := let ⟨_, h1, h2⟩ := ha.ex; ⟨_, fun i => pw_or1 (h1 i), h2⟩
theorem wa (ha : QT K X a ft) (hb : QW K X (.BoolOp .And (b :: rest) pos) gt) : QW K X (.BoolOp .And (a :: b :: rest) pos) (fAnd ft gt) := let ⟨_, h1, h2⟩ := ha.ex; let ⟨_, h3, h4⟩ := hb.ex; ⟨_, fun i => pw_and (h1 i) (h3 i), simAnd h2 h4⟩
theorem wor (ha : QT K X a ft) (hb : QW K X (.BoolOp .Or (b :: rest) pos) gt) : QW K X (.BoolOp .Or (a :: b :: rest) pos) (fOr ft gt) := let ⟨_, h1, h2⟩ := ha.ex; let ⟨_, h3, h4⟩ := hb.ex; ⟨_, fun i => pw_or (h1 i) (h3 i), simOr h2 h4⟩
theorem QW.t (h : QW K X e ft) : QT K X e ft := let ⟨_, h1, h2⟩ := h.ex; ⟨_, fun i => (h1 i).pt, h2⟩
theorem qif (hc : QT K X c ft) (ha : QE K X a f) (hb : QE K X b g) : QE K X (.IfExp c a b pos) (eIf ft f g) := let ⟨_, h1, h2⟩ := hc.ex; let ⟨_, h3, h4⟩ := ha.ex; let ⟨_, h5, h6⟩ := hb.ex; ⟨_, fun i => pe_ifExp (h1 i) (h3 i) (h5 i), simIf h2 h4 h6⟩

/-! ### items, slices, displays -/
theorem qix (ha : QE K X a f) (hb : QE K X b g) (hs : PlainIx b := by exact fun _ _ => rfl) (hK : ∀ i, (X i).K = K := by exact fun _ => rfl) : QE K X (.Subscript a b pos) (eOp oIdx f g) :=
  let ⟨t, h1, h2⟩ := ha.ex; let ⟨u, h3, h4⟩ := hb.ex; ⟨tOp (rIx K) t u, fun i => hK i ▸ pe_ix ix_seq (h1 i) (h3 i) hs, simOp simIdx h2 h4⟩
theorem qdget {k : Nat} (hR : ∀ i, Room k (X i).A) (ha : QE K X a f) (hb : QE K X b g) (hs : NoSl b := by exact fun _ _ => rfl) : QE K X (.Subscript a b pos) (eDGet f g) :=
  let ⟨t, h1, h2⟩ := ha.ex; let ⟨u, h3, h4⟩ := hb.ex; ⟨_, fun i => pe_dget (hu_of (hR i)) (h1 i) (h3 i) hs, simDGet h2 h4⟩
theorem qno : QP K X none pNo := ⟨_, fun _ => po_none, simNo⟩
theorem qpart (ha : QE K X a f) : QP K X (some a) (pSo f) := let ⟨_, h1, h2⟩ := ha.ex; ⟨_, fun i => po_some (h1 i), simSo h2⟩
theorem qsl {lo hi : Option Expr} {fl fh : T3O} (ha : QE K X a f) (hl : QP K X lo fl) (hh : QP K X hi fh) (hK : ∀ i, (X i).K = K := by exact fun _ => rfl) : QE K X (.Subscript a (.Slice lo hi none p2) pos) (eSl f fl fh) :=
  let ⟨t, h1, h2⟩ := ha.ex; let ⟨u, h3, h4⟩ := hl.ex; let ⟨w, h5, h6⟩ := hh.ex; ⟨tSl (r2Sl K) t u w, fun i => hK i ▸ pe_slice sl_P (h1 i) (h3 i) (h5 i), simSl h2 h4 h6⟩
variable {fa ga : T3A}
theorem qan : QA K X [] aNil := ⟨_, fun _ => pa_nil, simNil⟩
theorem qac (ha : QE K X e f) (hr : QA K X es fa) (hs : ∀ i, starEach (e :: es) (X i).env = (false, eval e (X i).env) :: starEach es (X i).env := by exact fun _ => rfl) : QA K X (e :: es) (aCons f fa) :=
  let ⟨_, h1, h2⟩ := ha.ex; let ⟨_, h3, h4⟩ := hr.ex; ⟨_, fun i => pa_cons (h1 i) (h3 i) (hs i), simCons h2 h4⟩
theorem qtup {x1 : Nat} (h : QA K X es fa) : QE K X (.Tuple es x1 pos) (eTup fa) := let ⟨_, h1, h2⟩ := h.ex; ⟨_, fun i => pe_tupF (h1 i), simTup h2⟩
theorem qlst (h : QA K X es fa) : QE K X (.List es pos) (eLst fa) := let ⟨_, h1, h2⟩ := h.ex; ⟨_, fun i => pe_lst (h1 i), simLst h2⟩
theorem olst (h : QA K X es fa) : QO K X (.List es pos) (oLst fa) := let ⟨_, h1, h2⟩ := h.ex; ⟨_, fun i => pe_lst (h1 i), simOLst h2⟩
theorem odicE : QO K X (.Dict [] [] pos) oDicE := ⟨_, fun _ => pe_dnewK, simODicE⟩
theorem orev {k : Nat} {p1 p3 : Pos} (h : QE K X e f) (hK : ∀ i, (X i).K = K := by exact fun _ => rfl) : QO K X (.Subscript e (.Slice none none (some (.UnaryOp .USub (.Constant (.int 1) k p1) p2)) p3) pos) (oRev f) :=
  let ⟨t, h1, h2⟩ := h.ex; ⟨tRevL K t, fun i => hK i ▸ pe_revL (h1 i), simORev h2⟩
theorem QO.sh {fo : T3O'} (h : QO K X e fo) : QE K X e (eShr fo) := let ⟨_, h1, h2⟩ := h.ex; ⟨_, h1, simShr h2⟩
/-- the pairs of a dict display -/
structure QD {ι : Type} (K : PySem.W.Frag) (X : ι → Cx) (pos : Pos) (ks : List (Option Expr)) (vs : List Expr) (ps : List (Str × T3E)) : Prop where
  ex : ∃ t, (∀ i, PPs (X i) pos ks vs t) ∧ SimP K t ps
theorem qdn : QD K X pos [] [] [] := ⟨_, fun _ => pps_nil, .nil⟩
theorem qdc {s : Str} {j : Nat} {v : Expr} {ks : List (Option Expr)} {vs : List Expr} {ps : List (Str × T3E)} (hv : QE K X v f) (hr : QD K X pos ks vs ps) : QD K X pos (some (.Constant (.str s) j p) :: ks) (v :: vs) ((s, f) :: ps) :=
  let ⟨_, h1, h2⟩ := hv.ex; let ⟨_, h3, h4⟩ := hr.ex; ⟨_, fun i => pps_cons pe_str (h1 i) (h3 i), .cons h2 h4⟩
theorem odisp {keys : List (Option Expr)} {values : List Expr} {ps : List (Str × T3E)} (h : QD K X pos keys values ps) (hall : keys.all (·.isSome) = true := by rfl) (hl : keys.length = values.length := by rfl) (h0 : keys ≠ [] := by exact fun z => by cases z)
    (h15 : keys.length ≤ 15 := by decide) : QO K X (.Dict keys values pos) (oDisp ps) := let ⟨_, h1, h2⟩ := h.ex; ⟨_, fun i => pe_disp (h1 i) hall hl h0 h15, simODisp h2⟩

/-! ### calls of built-ins -/
theorem qcb {id : String} {r : List V → Hp → VK → Prop} {r3 : List Rs → En → (Rs → En → Prop) → Prop} (hc : ∀ i, CallR (X i) (.builtin id) r) (hs : SimCR K r r3) (hm : ∀ i, (X i).mg x = none) (hv : bootBuiltins x = some (.builtin id)) (ha : QA K X (e :: es) fa)
    (hg : ∀ i, Gl (X i) x := by exact fun _ => rfl) (hn : x ≠ "__name__" := by decide) (hdb : (x == ("__debug__" : Str)) = false := by decide)
    (hst : ∀ i, starEach (e :: es) (X i).env = (false, eval e (X i).env) :: starEach es (X i).env := by exact fun _ => rfl) (hpl : ∀ i, (backTo pos (starEach es (X i).env)).any (·.1) = false := by exact fun _ => rfl) : QE K X (.Call (.Name x p) (e :: es) [] pos) (eCB r3 fa) :=
  let ⟨_, h1, h2⟩ := ha.ex; ⟨_, fun i => pe_callB (hc i) (hg i) (hm i) hv (h1 i) hn hdb (hst i) (hpl i), simCB hs h2⟩
theorem qct {T : String} {r : List V → Hp → VK → Prop} {r3 : List Rs → En → (Rs → En → Prop) → Prop} (hc : ∀ i, CallR (X i) (.type T) r) (hs : SimCR K r r3) (hm : ∀ i, (X i).mg x = none) (hv : bootBuiltins x = some (.type T)) (ha : QA K X (e :: es) fa)
    (hg : ∀ i, Gl (X i) x := by exact fun _ => rfl) (hn : x ≠ "__name__" := by decide) (hdb : (x == ("__debug__" : Str)) = false := by decide)
    (hst : ∀ i, starEach (e :: es) (X i).env = (false, eval e (X i).env) :: starEach es (X i).env := by exact fun _ => rfl) (hpl : ∀ i, (backTo pos (starEach es (X i).env)).any (·.1) = false := by exact fun _ => rfl) : QE K X (.Call (.Name x p) (e :: es) [] pos) (eCB r3 fa) :=
  let ⟨_, h1, h2⟩ := ha.ex; ⟨_, fun i => pe_callTy (hc i) (hg i) (hm i) hv (h1 i) hn hdb (hst i) (hpl i), simCB hs h2⟩
theorem qlen (hm : ∀ i, (X i).mg "len" = none) (ha : QA K X [e] fa) (hg : ∀ i, Gl (X i) "len" := by exact fun _ => rfl) (hK : ∀ i, (X i).K = K := by exact fun _ => rfl)
    (hst : ∀ i, starEach [e] (X i).env = (false, eval e (X i).env) :: starEach [] (X i).env := by exact fun _ => rfl) (hpl : ∀ i, (backTo pos (starEach [] (X i).env)).any (·.1) = false := by exact fun _ => rfl) : QE K X (.Call (.Name "len" p) [e] [] pos) (eCB cLen fa) := qcb (fun i => hK i ▸ call_len) simLen hm boot_len ha hg (by decide) (by decide) hst hpl
theorem qabs (hm : ∀ i, (X i).mg "abs" = none) (ha : QA K X [e] fa) (hg : ∀ i, Gl (X i) "abs" := by exact fun _ => rfl)
    (hst : ∀ i, starEach [e] (X i).env = (false, eval e (X i).env) :: starEach [] (X i).env := by exact fun _ => rfl) (hpl : ∀ i, (backTo pos (starEach [] (X i).env)).any (·.1) = false := by exact fun _ => rfl) : QE K X (.Call (.Name "abs" p) [e] [] pos) (eCB cAbs fa) := qcb (fun i => call_abs) simAbs hm PyProof.Rows.boot_abs ha hg (by decide) (by decide) hst hpl
theorem qint1 (hm : ∀ i, (X i).mg "int" = none) (ha : QA K X [e] fa) (hg : ∀ i, Gl (X i) "int" := by exact fun _ => rfl)
    (hst : ∀ i, starEach [e] (X i).env = (false, eval e (X i).env) :: starEach [] (X i).env := by exact fun _ => rfl) (hpl : ∀ i, (backTo pos (starEach [] (X i).env)).any (·.1) = false := by exact fun _ => rfl) : QE K X (.Call (.Name "int" p) [e] [] pos) (eCB cInt fa) := qct (fun i => call_int1) simInt hm PyProof.Rows.boot_int ha hg (by decide) (by decide) hst hpl
theorem qtupC (hm : ∀ i, (X i).mg "tuple" = none) (ha : QA K X [e] fa) (hg : ∀ i, Gl (X i) "tuple" := by exact fun _ => rfl) (hK : ∀ i, (X i).K = K := by exact fun _ => rfl)
    (hst : ∀ i, starEach [e] (X i).env = (false, eval e (X i).env) :: starEach [] (X i).env := by exact fun _ => rfl) (hpl : ∀ i, (backTo pos (starEach [] (X i).env)).any (·.1) = false := by exact fun _ => rfl) : QE K X (.Call (.Name "tuple" p) [e] [] pos) (eCB cTuple fa) := qct (fun i => hK i ▸ call_tupleF) simTuple hm PyProof.Rows.boot_tuple ha hg (by decide) (by decide) hst hpl
theorem olistC (hm : ∀ i, (X i).mg "list" = none) (ha : QA K X [e] fa) (hg : ∀ i, Gl (X i) "list" := by exact fun _ => rfl) (hK : ∀ i, (X i).K = K := by exact fun _ => rfl)
    (hst : ∀ i, starEach [e] (X i).env = (false, eval e (X i).env) :: starEach [] (X i).env := by exact fun _ => rfl) (hpl : ∀ i, (backTo pos (starEach [] (X i).env)).any (·.1) = false := by exact fun _ => rfl) : QO K X (.Call (.Name "list" p) [e] [] pos) (oListC fa) :=
  let ⟨u, h1, h2⟩ := ha.ex; ⟨tCB (fun xs H Q => ∃ p ys, xs = [.ref p] ∧ (SqL K H p ys ∨ SqT K H p ys) ∧ ∀ l, H l = none → Q (.ref l) (upd H l (.lst ys))) u, fun i => pe_callTy (hK i ▸ call_list_of) (hg i) (hm i) PyProof.Rows.boot_list (h1 i) (by decide) (by decide) (hst i) (hpl i), simOListC h2⟩
theorem qall (hc : ∀ i, (X i).calm = true) (hm : ∀ i, (X i).mg "all" = none) (ha : QA K X [e] fa) (hg : ∀ i, Gl (X i) "all" := by exact fun _ => rfl) (hK : ∀ i, (X i).K = K := by exact fun _ => rfl)
    (hst : ∀ i, starEach [e] (X i).env = (false, eval e (X i).env) :: starEach [] (X i).env := by exact fun _ => rfl) (hpl : ∀ i, (backTo pos (starEach [] (X i).env)).any (·.1) = false := by exact fun _ => rfl) : QE K X (.Call (.Name "all" p) [e] [] pos) (eCB cAll fa) := qcb (fun i => hK i ▸ cr_all (hc i)) simAll hm PyProof.Rows.boot_all ha hg (by decide) (by decide) hst hpl
theorem qisi (hm : ∀ i, (X i).mg "isinstance" = none) (ha : QA K X [a, b] fa) (hg : ∀ i, Gl (X i) "isinstance" := by exact fun _ => rfl) (hK : ∀ i, (X i).K = K := by exact fun _ => rfl)
    (hst : ∀ i, starEach [a, b] (X i).env = (false, eval a (X i).env) :: starEach [b] (X i).env := by exact fun _ => rfl) (hpl : ∀ i, (backTo pos (starEach [b] (X i).env)).any (·.1) = false := by exact fun _ => rfl) : QE K X (.Call (.Name "isinstance" p) [a, b] [] pos) (eCB cIsi fa) := qcb (fun i => hK i ▸ call_isi) simIsi hm PyProof.Rows.boot_isinstance ha hg (by decide) (by decide) hst hpl

/-! ### methods of built-ins -/
theorem qbm {T id : String} {name : Str} {r : V → List V → Hp → VK → Prop} {m3 : M3} (pa : PlainAttrs T) (slot : Slot T name id) (hty : typeOf (.builtin id) = pure (.type "method_descriptor")) (hm : ∀ i, MtR (X i) id r) (hs : SimM K r m3) (ho : QE K X a f) (ha : QA K X (e :: es) fa)
    (hK : ∀ i, (X i).K = K := by exact fun _ => rfl)
    (hbase : ∀ i, attributeBase a name (X i).env (eval a (X i).env) = eval a (X i).env := by exact fun _ => rfl)
    (hfew : ∀ i, ((backTo cpos (starEach (e :: es) (X i).env)).all (fun x => !x.1) && (backToKw cpos (keywordEach [] (X i).env)).all (fun x => x.1.isSome)
      && decide ((e :: es).length + ([] : List Keyword).length + (if ([] : List Keyword).isEmpty then 0 else 1) < 30)) = true := by exact fun _ => rfl)
    (hline : (apos.endLine == cpos.line) = true := by rfl) (hst : ∀ i, starEach (e :: es) (X i).env = (false, eval e (X i).env) :: starEach es (X i).env := by exact fun _ => rfl) (hpl : ∀ i, (backTo cpos (starEach es (X i).env)).any (·.1) = false := by exact fun _ => rfl) :
    QE K X (.Call (.Attribute a name apos) (e :: es) [] cpos) (eBM T m3 f fa) :=
  let ⟨t, h1, h2⟩ := ho.ex; let ⟨u, h3, h4⟩ := ha.ex; ⟨tBM K T r t u, fun i => hK i ▸ pe_bm pa slot hty (hm i) (h1 i) (h3 i) (hbase i) (hfew i) hline (hst i) (hpl i), simBM hs h2 h4⟩
theorem qbm0 {T id : String} {name : Str} {r : V → List V → Hp → VK → Prop} {m3 : M3} (pa : PlainAttrs T) (slot : Slot T name id) (hty : typeOf (.builtin id) = pure (.type "method_descriptor")) (hm : ∀ i, MtR (X i) id r) (hs : SimM K r m3) (ho : QE K X a f)
    (hK : ∀ i, (X i).K = K := by exact fun _ => rfl) (hbase : ∀ i, attributeBase a name (X i).env (eval a (X i).env) = eval a (X i).env := by exact fun _ => rfl) (hline : (apos.endLine == cpos.line) = true := by rfl) :
    QE K X (.Call (.Attribute a name apos) [] [] cpos) (eBM0 T m3 f) :=
  let ⟨t, h1, h2⟩ := ho.ex; ⟨tBM0 K T r t, fun i => hK i ▸ pe_bm0 pa slot hty (hm i) (h1 i) (hbase i) hline, simBM0 hs h2⟩
theorem qtidx {k : Nat} (hR : ∀ i, Room k (X i).A) (ho : QE K X a f) (ha : QA K X [e] fa) (hK : ∀ i, (X i).K = K := by exact fun _ => rfl)
    (hbase : ∀ i, attributeBase a "index" (X i).env (eval a (X i).env) = eval a (X i).env := by exact fun _ => rfl)
    (hfew : ∀ i, ((backTo cpos (starEach [e] (X i).env)).all (fun x => !x.1) && (backToKw cpos (keywordEach [] (X i).env)).all (fun x => x.1.isSome)
      && decide (([e] : List Expr).length + ([] : List Keyword).length + (if ([] : List Keyword).isEmpty then 0 else 1) < 30)) = true := by exact fun _ => rfl)
    (hline : (apos.endLine == cpos.line) = true := by rfl) (hst : ∀ i, starEach [e] (X i).env = (false, eval e (X i).env) :: starEach [] (X i).env := by exact fun _ => rfl) (hpl : ∀ i, (backTo cpos (starEach [] (X i).env)).any (·.1) = false := by exact fun _ => rfl) :
    QE K X (.Call (.Attribute a "index" apos) [e] [] cpos) (eTIdx f fa) :=
  let ⟨t, h1, h2⟩ := ho.ex; let ⟨u, h3, h4⟩ := ha.ex; ⟨tMG (tyTup K) (rIndexT K) t u, fun i => hK i ▸ pe_mG ty_tup PySem.F.plainAttrs_tuple PySem.F.slot_tuple_index PySem.F.type_tuple_index (mt_indexT (hu65 (hR i))) (h1 i) (h3 i) (hbase i) (hfew i) hline (hst i) (hpl i), simTIdx h2 h4⟩

/-! ### own defs, classes -/
structure C3 (P : Program) (w : World) (K : PySem.W.Frag) (mg : Str → Option Value) (base : Heap) (k : Nat) (x : Str) (ms : List Md) (sp : S3) : Prop where
  ex : ∃ (f : Addr) (fd : FuncData) (ps : List Str), FnOk P w K mg base CX0 k f fd ps (Lift K ms sp) ∧ mg x = some (.ref f) ∧ PySem.W.keepIn K (.ref f) = true ∧ Binds K fd ps []
structure Me3 (P : Program) (w : World) (K : PySem.W.Frag) (mg : Str → Option Value) (base : Heap) (k : Nat) (C : Addr) (m : Str) (ms : List Md) (sp : S3) : Prop where
  ex : ∃ (f : Addr) (fd : FuncData) (ps : List Str), Cls K C ∧ Meth K C m f ∧ FnOk P w K mg base CX0 k f fd ps (Lift K ms sp) ∧ Binds K fd ps []
structure Mk3 (P : Program) (w : World) (K : PySem.W.Frag) (mg : Str → Option Value) (base : Heap) (k : Nat) (x : Str) (C : Addr) (ms : List Md) (sp : S3) : Prop where
  ex : ∃ (f : Addr) (fd : FuncData) (ps : List Str), Mk K C f ∧ FnOk P w K mg base CX0 k f fd ps (Lift K (.par :: ms) sp) ∧ mg x = some (.ref C) ∧ Binds K fd ps []
structure Pr3 (P : Program) (w : World) (K : PySem.W.Frag) (mg : Str → Option Value) (base : Heap) (k : Nat) (C : Addr) (f : Str) (md : Md) (sp : S3) : Prop where
  ex : ∃ (p g : Addr) (fd : FuncData) (ps : List Str), Cls K C ∧ PropOf K C f p g ∧ FnOk P w K mg base CX0 k g fd ps (Lift K [md] sp) ∧ Binds K fd ps []
structure Op3 (P : Program) (w : World) (K : PySem.W.Frag) (mg : Str → Option Value) (base : Heap) (k : Nat) (C : Addr) (op : CmpOp) (ms : List Md) (sp : S3) : Prop where
  ex : ∃ (g : Addr) (fd : FuncData) (ps : List Str), PySem.W.findIn K (.ref C) (cmpInfo op).2.1 = some (some (.ref g)) ∧ PySem.W.isFn K (.ref g) = true ∧ FnOk P w K mg base CX0 k g fd ps (Lift K ms sp) ∧ Binds K fd ps []
variable {ms : List Md} {sp : S3} {k j : Nat} {C : Addr} {m : Str}
theorem qcall (cf : ∀ i, C3 (X i).prog (X i).w K (X i).mg (X i).base k x ms sp) (hR : ∀ i, Room j (X i).A) (hk : k ≤ j) (ha : QA K X (e :: es) fa) (hK : ∀ i, (X i).K = K := by exact fun _ => rfl) (hg : ∀ i, Gl (X i) x := by exact fun _ => rfl) (hdb : (x == ("__debug__" : Str)) = false := by decide)
    (he : ∀ i, starEach (e :: es) (X i).env = (false, eval e (X i).env) :: starEach es (X i).env := by exact fun _ => rfl) (hpl : ∀ i, (backTo pos (starEach es (X i).env)).any (·.1) = false := by exact fun _ => rfl) (np : noPab ms = true := by rfl) :
    QE K X (.Call (.Name x p) (e :: es) [] pos) (eCall ms sp fa) :=
  let ⟨u, h1, h2⟩ := ha.ex
  ⟨tCall (Lift K ms sp) [] E0 u, fun i => by
    obtain ⟨f, fd, ps, F, hm, kp, b⟩ := (cf i).ex
    have e := hK i
    subst e
    exact pe_call F ((hR i).mono hk) (hg i) hm kp b .nil pass0 (h1 i) hdb (he i) (hpl i), simCall np h2⟩
theorem ocall (cf : ∀ i, C3 (X i).prog (X i).w K (X i).mg (X i).base k x ms sp) (hR : ∀ i, Room j (X i).A) (hk : k ≤ j) (ha : QA K X (e :: es) fa) (hK : ∀ i, (X i).K = K := by exact fun _ => rfl) (hg : ∀ i, Gl (X i) x := by exact fun _ => rfl) (hdb : (x == ("__debug__" : Str)) = false := by decide)
    (he : ∀ i, starEach (e :: es) (X i).env = (false, eval e (X i).env) :: starEach es (X i).env := by exact fun _ => rfl) (hpl : ∀ i, (backTo pos (starEach es (X i).env)).any (·.1) = false := by exact fun _ => rfl) (np : noPab ms = true := by rfl) :
    QO K X (.Call (.Name x p) (e :: es) [] pos) (oCall ms sp fa) :=
  let ⟨u, h1, h2⟩ := ha.ex
  ⟨tCall (Lift K ms sp) [] E0 u, fun i => by
    obtain ⟨f, fd, ps, F, hm, kp, b⟩ := (cf i).ex
    have e := hK i
    subst e
    exact pe_call F ((hR i).mono hk) (hg i) hm kp b .nil pass0 (h1 i) hdb (he i) (hpl i), simOCall np h2⟩
theorem omake (cf : ∀ i, Mk3 (X i).prog (X i).w K (X i).mg (X i).base k x C ms sp) (hR : ∀ i, Room j (X i).A) (hk : k + 1 ≤ j) (ha : QA K X (e :: es) fa) (hK : ∀ i, (X i).K = K := by exact fun _ => rfl) (hg : ∀ i, Gl (X i) x := by exact fun _ => rfl) (hdb : (x == ("__debug__" : Str)) = false := by decide)
    (he : ∀ i, starEach (e :: es) (X i).env = (false, eval e (X i).env) :: starEach es (X i).env := by exact fun _ => rfl) (hpl : ∀ i, (backTo pos (starEach es (X i).env)).any (·.1) = false := by exact fun _ => rfl) (np : noPab ms = true := by rfl) :
    QO K X (.Call (.Name x p) (e :: es) [] pos) (oMake C ms sp fa) :=
  let ⟨u, h1, h2⟩ := ha.ex
  ⟨tMake C (Lift K (.par :: ms) sp) [] E0 u, fun i => by
    obtain ⟨f, fd, ps, M, F, hm, b⟩ := (cf i).ex
    have e := hK i
    subst e
    exact pe_make M F ((hR i).mono hk) (hg i) hm b .nil pass0 (h1 i) hdb (he i) (hpl i), simOMake np h2⟩
theorem qmeth {pl : ι → Sem Bool} (cf : ∀ i, Me3 (X i).prog (X i).w K (X i).mg (X i).base k C m ms sp) (hR : ∀ i, Room j (X i).A) (hk : k ≤ j) (ho : QE K X a f) (ha : QA K X (e :: es) fa) (hK : ∀ i, (X i).K = K := by exact fun _ => rfl)
    (hst : ∀ i, starEach (e :: es) (X i).env = (false, eval e (X i).env) :: starEach es (X i).env := by exact fun _ => rfl) (hpl : ∀ i, (backTo pos (starEach es (X i).env)).any (·.1) = false := by exact fun _ => rfl)
    (ht : ∀ i, eval (.Call (.Attribute a m apos) (e :: es) [] pos) (X i).env = (do
      let ov ← eval a (X i).env
      standAt apos.atName
      let (f, first) ← holding [ov] (getMethod ov m (pl i))
      callWith pos f first (backTo pos (starEach (e :: es) (X i).env)) (backToKw pos (keywordEach [] (X i).env))) := by exact fun _ => rfl) (np : noPab ms = true := by rfl) :
    QE K X (.Call (.Attribute a m apos) (e :: es) [] pos) (eMeth C m ms sp f fa) :=
  let ⟨t, h1, h2⟩ := ho.ex; let ⟨u, h3, h4⟩ := ha.ex
  ⟨tMeth C m (Lift K ms sp) [] E0 t u, fun i => by
    obtain ⟨g, fd, ps, c, me, F, b⟩ := (cf i).ex
    have e := hK i
    subst e
    exact pe_meth (h1 i) c me F ((hR i).mono hk) b .nil pass0 (h3 i) (hst i) (hpl i) (ht i), simMeth np h2 h4⟩
theorem qprop {md : Md} (cf : ∀ i, Pr3 (X i).prog (X i).w K (X i).mg (X i).base k C m md sp) (hR : ∀ i, Room j (X i).A) (hk : k + 1 ≤ j) (ho : QE K X a f) (hK : ∀ i, (X i).K = K := by exact fun _ => rfl) (hb : ∀ i, attributeBase a m (X i).env (eval a (X i).env) = eval a (X i).env := by exact fun _ => rfl) (np : noPab [md] = true := by rfl) :
    QE K X (.Attribute a m pos) (eProp C md sp f) :=
  let ⟨t, h1, h2⟩ := ho.ex
  ⟨tProp C (Lift K [md] sp) [] E0 t, fun i => by
    obtain ⟨p, g, fd, ps, c, hp, F, b⟩ := (cf i).ex
    have e := hK i
    subst e
    exact pe_prop (h1 i) c hp F ((hR i).mono hk) b .nil pass0 (hb i), simProp np h2⟩
theorem cOwn {op : CmpOp} (cf : ∀ i, Op3 (X i).prog (X i).w K (X i).mg (X i).base k C op ms sp) (hR : ∀ i, Room j (X i).A) (hk : k ≤ j) (hop : ∀ a b, compareOp op a b = richCompare op a b := by exact fun _ _ => rfl) (hK : ∀ i, (X i).K = K := by exact fun _ => rfl) (np : noPab ms = true := by rfl) : QC K X op (oOwn C ms sp) :=
  ⟨rOwnI K C (Lift K ms sp), fun i => by
    obtain ⟨g, fd, ps, hs, hf, F, b⟩ := (cf i).ex
    have e := hK i
    subst e
    exact op_ownI hop hs hf F b ((hR i).mono hk), simOwn np⟩
theorem qfld (hc : Cls K C) (hn : NoAttr K C m) (ho : QE K X a f) (hK : ∀ i, (X i).K = K := by exact fun _ => rfl) (hb : ∀ i, attributeBase a m (X i).env (eval a (X i).env) = eval a (X i).env := by exact fun _ => rfl) : QE K X (.Attribute a m pos) (eFld C m f) :=
  let ⟨t, h1, h2⟩ := ho.ex; ⟨tFld K t m, fun i => hK i ▸ pe_fld (h1 i) (hb i), simFld hc hn h2⟩
theorem qisC (ci : C8.InsC K C) (hm : ∀ i, (X i).mg "isinstance" = none) (ha : QA K X [a, b] fa) (hg : ∀ i, Gl (X i) "isinstance" := by exact fun _ => rfl) (hK : ∀ i, (X i).K = K := by exact fun _ => rfl)
    (hst : ∀ i, starEach [a, b] (X i).env = (false, eval a (X i).env) :: starEach [b] (X i).env := by exact fun _ => rfl) (hpl : ∀ i, (backTo pos (starEach [b] (X i).env)).any (·.1) = false := by exact fun _ => rfl) : QE K X (.Call (.Name "isinstance" p) [a, b] [] pos) (eCB (cIsC C) fa) :=
  qcb (fun i => C8.call_isC (hK i ▸ ci)) simIsC hm PyProof.Rows.boot_isinstance ha hg (by decide) (by decide) hst hpl
end
end L3

set_option Elab.async false
set_option linter.all false
set_option maxRecDepth 100000
namespace L3
open PySem PySem.Spec L2
open PyProof.Rows (b2i envOfC)
section
variable {ι : Type} {X : ι → Cx} {K : PySem.W.Frag} {pos p p2 pos' apos cpos spos : Pos} {e a b c d' tg iter o value : Expr} {es rest ifs : List Expr} {f g h fv fo : T3E} {x y : Str} {st : Stmt} {sts body els : List Stmt} {fs gs : T3S} {ft : T3T} {fa : T3A}

/-! ### statements -/
theorem bn : QB K X [] sNext := ⟨_, fun _ => pss_nil, simNext⟩
theorem bc (h1 : QS K X st fs) (h2 : QB K X sts gs) : QB K X (st :: sts) (sSeq fs gs) := let ⟨_, a1, a2⟩ := h1.ex; let ⟨_, b1, b2⟩ := h2.ex; ⟨_, fun i => pss_cons (a1 i) (b1 i), simSeq a2 b2⟩
theorem b1 (h1 : QS K X st fs) : QB K X [st] fs := let ⟨_, a1, a2⟩ := h1.ex; ⟨_, fun i => pss_one (a1 i), a2⟩
theorem bnever : QB K X sts sNever := ⟨_, fun _ => pss_never, simNever⟩
theorem snever : QS K X st sNever := ⟨_, fun _ => ps_never, simNever⟩
theorem spass : QS K X (.Pass pos) sNext := ⟨_, fun _ => ps_pass, simNext⟩
theorem sbreak : QS K X (.Break pos) sBreak := ⟨_, fun _ => ps_break, simBreak⟩
theorem scont : QS K X (.Continue pos) sCont := ⟨_, fun _ => ps_continue, simCont⟩
theorem sexpr (he : QE K X e f) (hs : ∀ i, swapsWith e none pos.line (X i).env = pure false := by exact fun _ => rfl) : QS K X (.Expr e pos) (sDrop f) := let ⟨_, a1, a2⟩ := he.ex; ⟨_, fun i => ps_expr (a1 i) (hs i), simDrop a2⟩
theorem sret (he : QE K X e f) : QS K X (.Return (some e) pos) (sRet f) := let ⟨_, a1, a2⟩ := he.ex; ⟨_, fun i => ps_ret (a1 i), simRet a2⟩
theorem sretO {f : T3O'} (he : QO K X e f) : QS K X (.Return (some e) pos) (sRetO f) := let ⟨_, a1, a2⟩ := he.ex; ⟨_, fun i => ps_ret (a1 i), simRetO a2⟩
theorem sretN : QS K X (.Return none pos) sRetN := ⟨_, fun _ => ps_retN, simRetN⟩
theorem sif (hc : QT K X c ft) (ha : QB K X body fs) (hb : QB K X els gs) : QS K X (.If c body els pos) (sIf ft fs gs) := let ⟨_, a1, a2⟩ := hc.ex; let ⟨_, b1, b2⟩ := ha.ex; let ⟨_, c1, c2⟩ := hb.ex; ⟨_, fun i => ps_if (a1 i) (b1 i) (c1 i), simIfS a2 b2 c2⟩
/-! ### targets -/
theorem gn (n : Nat) (hN : ∀ i, (X i).N[n]? = some x := by exact fun _ => rfl) (hnd : ∀ i, (X i).N.Nodup := by exact fun _ => by decide) (hx : ∀ i, Loc (X i).env.scope x := by first | exact fun _ => Or.inl rfl | exact fun _ => Or.inr rfl)
    (hf : ∀ i, (X i).fn x = true ∨ (X i).env.scope.names.lookup x = some .local := by first | exact fun _ => Or.inl rfl | exact fun _ => Or.inr rfl) : QG K X false (.Name x pos) (gN n) [n] := ⟨_, fun i => pg_name (hnd i) (hN i) (hx i) (hf i), simGN n⟩
theorem gsn : QGs K X 0 [] (fun xs ρ Q => xs = [] ∧ Q ρ) [] := ⟨_, fun _ => pgs_nil, simGNil⟩
theorem gsc {g1 : T3G} {gr : List D → En → (En → Prop) → Prop} {is js : List Nat} {n : Nat} (h1 : QG K X false e g1 is) (h2 : QGs K X n es gr js) (hs : ∀ i, (assignEach (e :: es) (X i).env).map (·.2) = assign e (X i).env :: (assignEach es (X i).env).map (·.2) := by exact fun _ => rfl) :
    QGs K X (n + 1) (e :: es) (fun xs ρ Q => match xs with | x :: r => g1 x ρ fun ρ1 => gr r ρ1 Q | [] => False) (is ++ js) := let ⟨_, a1, a2⟩ := h1.ex; let ⟨_, b1, b2⟩ := h2.ex; ⟨_, fun i => pgs_cons (a1 i) (b1 i) (hs i), simGCons a2 b2⟩
theorem gtup {wk : Bool} {kk n : Nat} {gr : List D → En → (En → Prop) → Prop} {is : List Nat} (h : QGs K X n es gr is) (hc : ∀ i, (X i).calm = true := by exact fun _ => rfl) (hK : ∀ i, (X i).K = K := by exact fun _ => rfl)
    (hn : ∀ i, (assignEach es (X i).env).length = n := by exact fun _ => rfl) (hst : ∀ i, (assignEach es (X i).env).findIdx? (·.1) = none := by exact fun _ => rfl) : QG K X wk (.Tuple es kk pos) (gT n gr) is :=
  let ⟨t, a1, a2⟩ := h.ex; ⟨gTup K n t, fun i => hK i ▸ pg_tup (hc i) (a1 i) (hn i) (hst i), simGT a2⟩
/-! ### assignments -/
theorem sset (n : Nat) (he : QE K X e f) (hN : ∀ i, (X i).N[n]? = some x := by exact fun _ => rfl) (hnd : ∀ i, (X i).N.Nodup := by exact fun _ => by decide) (hx : ∀ i, Loc (X i).env.scope x := by first | exact fun _ => Or.inl rfl | exact fun _ => Or.inr rfl)
    (hs : ∀ i, swapsWith e (some (.Name x pos')) pos.line (X i).env = pure false := by exact fun _ => rfl) (hf : ∀ i, (X i).fn x = true ∨ (X i).env.scope.names.lookup x = some .local := by first | exact fun _ => Or.inl rfl | exact fun _ => Or.inr rfl) :
    QS K X (.Assign [.Name x pos'] e pos) (sAsg f (gN n)) := let ⟨_, a1, a2⟩ := he.ex; ⟨_, fun i => ps_set (hnd i) (hN i) (hx i) (a1 i) (hs i) (hf i), simAsg a2 (simGN n)⟩
theorem ssetO (n : Nat) {f : T3O'} (he : QO K X e f) (hN : ∀ i, (X i).N[n]? = some x := by exact fun _ => rfl) (hnd : ∀ i, (X i).N.Nodup := by exact fun _ => by decide) (hx : ∀ i, Loc (X i).env.scope x := by first | exact fun _ => Or.inl rfl | exact fun _ => Or.inr rfl)
    (hs : ∀ i, swapsWith e (some (.Name x pos')) pos.line (X i).env = pure false := by exact fun _ => rfl) (hf : ∀ i, (X i).fn x = true ∨ (X i).env.scope.names.lookup x = some .local := by first | exact fun _ => Or.inl rfl | exact fun _ => Or.inr rfl) :
    QS K X (.Assign [.Name x pos'] e pos) (sAsgO f n) := let ⟨_, a1, a2⟩ := he.ex; ⟨_, fun i => ps_set (hnd i) (hN i) (hx i) (a1 i) (hs i) (hf i), simAsgO a2 n⟩
theorem sasg {g3 : T3G} {is : List Nat} (he : QE K X e f) (hg : QG K X false tg g3 is) (hs : ∀ i, swapsWithSole [tg] e pos.line (X i).env = pure false := by exact fun _ => rfl) (hw : ∀ i, swappedStores [tg] e (X i).env = pure none := by exact fun _ => rfl)
    (h1 : ∀ i, (assignEach [tg] (X i).env).map (·.2) = [assign tg (X i).env] := by exact fun _ => rfl) : QS K X (.Assign [tg] e pos) (sAsg f g3) := let ⟨_, a1, a2⟩ := he.ex; let ⟨_, b1, b2⟩ := hg.ex; ⟨_, fun i => ps_asg (a1 i) (b1 i) (hs i) (hw i) (h1 i), simAsg a2 b2⟩
/-- xs[i] = e -/
theorem sput {i' : Expr} (he : QE K X e f) (ho : QE K X o fo) (hi : QE K X i' h) (hs : ∀ i, swapsWithSole [.Subscript o i' p] e pos.line (X i).env = pure false := by exact fun _ => rfl) (hw : ∀ i, swappedStores [.Subscript o i' p] e (X i).env = pure none := by exact fun _ => rfl)
    (h1 : ∀ i, (assignEach [.Subscript o i' p] (X i).env).map (·.2) = [assign (.Subscript o i' p) (X i).env] := by exact fun _ => rfl)
    (hp : ∀ i v, assign (.Subscript o i' p) (X i).env v = (do
      let ov ← holding [v] (eval o (X i).env)
      let iv ← holding [v, ov] (eval i' (X i).env)
      standAt p
      holding [v, ov, iv] (setItem ov iv v)
      release [v, ov, iv] []) := by exact fun _ _ => rfl) : QS K X (.Assign [.Subscript o i' p] e pos) (sPut f fo h) :=
  let ⟨_, a1, a2⟩ := he.ex; let ⟨_, b1, b2⟩ := ho.ex; let ⟨_, c1, c2⟩ := hi.ex; ⟨_, fun i => ps_asg (a1 i) (pg_sub (b1 i) (c1 i) set_list (hp i)) (hs i) (hw i) (h1 i), simPut a2 b2 c2⟩
theorem sdput {k : Nat} {i' : Expr} (hR : ∀ i, Room k (X i).A) (he : QE K X e f) (ho : QE K X o fo) (hi : QE K X i' h) (hs : ∀ i, swapsWith e (some (.Subscript o i' pos')) pos.line (X i).env = pure false := by exact fun _ => rfl) : QS K X (.Assign [.Subscript o i' pos'] e pos) (sDPutD f fo h) :=
  let ⟨_, a1, a2⟩ := he.ex; let ⟨_, b1, b2⟩ := ho.ex; let ⟨_, c1, c2⟩ := hi.ex; ⟨_, fun i => ps_dput (hu_of (hR i)) (b1 i) (c1 i) (a1 i) (hs i), simDPut a2 b2 c2⟩
theorem sfld {C : Addr} {m : Str} (hc : Cls K C) (hn : NoAttr K C m) (ho : QE K X o fo) (hv : QE K X value fv) (hK : ∀ i, (X i).K = K := by exact fun _ => rfl) (hs : ∀ i, swapsWith value (some (.Attribute o m pos')) pos.line (X i).env = pure false := by exact fun _ => rfl) : QS K X (.Assign [.Attribute o m pos'] value pos) (sFldP C m fv fo) :=
  let ⟨t, a1, a2⟩ := ho.ex; let ⟨u, b1, b2⟩ := hv.ex; ⟨sFld K t u m, fun i => hK i ▸ ps_fld (a1 i) (b1 i) (hs i), simFldP hc hn b2 a2⟩
/-! ### walks -/
theorem iseq (he : QE K X e f) (hK : ∀ i, (X i).K = K := by exact fun _ => rfl) : QI K X false tg e (iS f) := let ⟨t, a1, a2⟩ := he.ex; ⟨iSeq K t, fun i => hK i ▸ pi_seq (a1 i), simIS a2⟩
theorem irng1 (hm : ∀ i, (X i).mg "range" = none) (ha : QA K X [a] fa) (hg : ∀ i, Gl (X i) "range" := by exact fun _ => rfl) (hs : ∀ i, starEach [a] (X i).env = [(false, eval a (X i).env)] := by exact fun _ => rfl) : QI K X false tg (.Call (.Name "range" p) [a] [] pos) (iR1 fa) :=
  let ⟨_, a1, a2⟩ := ha.ex; ⟨_, fun i => pi_range1 (hg i) (hm i) (a1 i) (hs i), simIR1 a2⟩
theorem irng2 (hm : ∀ i, (X i).mg "range" = none) (ha : QA K X [a, b] fa) (hg : ∀ i, Gl (X i) "range" := by exact fun _ => rfl) (hs : ∀ i, starEach [a, b] (X i).env = [(false, eval a (X i).env), (false, eval b (X i).env)] := by exact fun _ => rfl) (hs2 : ∀ i, starEach [b] (X i).env = [(false, eval b (X i).env)] := by exact fun _ => rfl) :
    QI K X false tg (.Call (.Name "range" p) [a, b] [] pos) (iR2 fa) := let ⟨_, a1, a2⟩ := ha.ex; ⟨_, fun i => pi_range2 (hg i) (hm i) (a1 i) (hs i) (hs2 i), simIR2 a2⟩
theorem irng3 (hm : ∀ i, (X i).mg "range" = none) (ha : QA K X [a, b, c] fa) (hg : ∀ i, Gl (X i) "range" := by exact fun _ => rfl) (hs : ∀ i, starEach [a, b, c] (X i).env = (false, eval a (X i).env) :: starEach [b, c] (X i).env := by exact fun _ => rfl) (hpl : ∀ i, (backTo pos (starEach [b, c] (X i).env)).any (·.1) = false := by exact fun _ => rfl) :
    QI K X false tg (.Call (.Name "range" p) [a, b, c] [] pos) (iRm fa) := let ⟨_, a1, a2⟩ := ha.ex; ⟨_, fun i => pi_range3 (hg i) (hm i) (a1 i) (hs i) (hpl i), simIRm a2⟩
theorem ienum {elts : List Expr} {kk : Nat} {tpos : Pos} (hm : ∀ i, (X i).mg "enumerate" = none) (ha : QA K X [e] fa) (hg : ∀ i, Gl (X i) "enumerate" := by exact fun _ => rfl) (hs : ∀ i, starEach [e] (X i).env = [(false, eval e (X i).env)] := by exact fun _ => rfl) (hK : ∀ i, (X i).K = K := by exact fun _ => rfl) :
    QI K X true (.Tuple elts kk tpos) (.Call (.Name "enumerate" p) [e] [] pos) (iEP fa) := let ⟨t, a1, a2⟩ := ha.ex; ⟨iEnumP K t, fun i => hK i ▸ pi_enumP (hg i) (hm i) (a1 i) (hs i), simIEP a2⟩
theorem sfor {wk : Bool} {w : T3I} {g3 : T3G} {ix : List Nat} (hi : QI K X wk tg iter w) (hg : QG K X wk tg g3 ix) (hb : QB K X body fs) (hp : ∀ i, PassesOwn (model (X i).prog (X i).w) (X i).A (X i).env (X i).xe := by exact fun _ => PassesOwn.never) (hc : ∀ i, (X i).calm = true := by exact fun _ => rfl)
    (hs : ∀ i x, foldedSetIterable iter (X i).env x = pure x := by exact fun _ _ => rfl) : QS K X (.For tg iter body [] pos) (sFor w g3 fs) :=
  let ⟨_, a1, a2⟩ := hi.ex; let ⟨_, b1, b2⟩ := hg.ex; let ⟨_, c1, c2⟩ := hb.ex; ⟨_, fun i => ps_for (hp i) (hc i) (a1 i) (b1 i) (c1 i) (hs i), simFor a2 b2 c2⟩
theorem swhile (hc : QT K X c ft) (hb : QB K X body fs) (hp : ∀ i, PassesOwn (model (X i).prog (X i).w) (X i).A (X i).env (X i).xe := by exact fun _ => PassesOwn.never) : QS K X (.While c body [] pos) (sWhile ft fs) :=
  let ⟨_, a1, a2⟩ := hc.ex; let ⟨_, b1, b2⟩ := hb.ex; ⟨_, fun i => ps_while (hp i) (a1 i) (b1 i), simWhile a2 b2⟩
/-! ### comprehensions -/
theorem tsn : QTs K X [] fYes := ⟨_, fun _ => pts_nil, fun F U ρ σ H Q3 Q2 e R q k => k true ρ H R (.refl R) q⟩
theorem ts1 (h : QT K X c ft) : QTs K X [c] ft := let ⟨_, a1, a2⟩ := h.ex; ⟨_, fun i => pts_one (a1 i), a2⟩
/-- the contexts of a comprehension's block -/
abbrev Blk (X : ι → Cx) (scope : Scope) : (ι × Shared × Hp × Addr × List (Str × Addr) × List Addr) → Cx := fun z => (X z.1).blk z.2.1 z.2.2.1 scope (compEnvC scope z.2.2.2.2.1 z.2.2.2.1 (X z.1).env) z.2.2.2.2.2
theorem olc {wk : Bool} {elt : Expr} {scope : Scope} {w : T3I} {g3 : T3G} {te : T3E} {ix : List Nat} (own : List (Str × Nat)) (hi : QI K X wk tg iter w) (hg : QG K (Blk X scope) wk tg g3 ix) (ht : QTs K (Blk X scope) ifs ft) (he : QE K (Blk X scope) elt te)
    (ok : ∀ i, BlkOk (X i).N (X i).env.scope scope own) (hc : ∀ i, (X i).calm = true := by exact fun _ => rfl) (hnd : ∀ i, (X i).N.Nodup := by exact fun _ => by decide)
    (hix : ix.all (fun i => (own.map (·.2)).contains i) = true := by rfl) (hs : ∀ i x, foldedSetIterable iter (X i).env x = pure x := by exact fun _ _ => rfl) :
    QO K X (.ListComp elt [⟨tg, iter, ifs, 0⟩] scope pos) (oLc w g3 ft te (own.map (·.2))) :=
  let ⟨_, a1, a2⟩ := hi.ex; let ⟨_, b1, b2⟩ := hg.ex; let ⟨_, c1, c2⟩ := ht.ex; let ⟨_, d1, d2⟩ := he.ex
  ⟨_, fun i => pe_lc (hc i) (hnd i) (a1 i) (ok i) (fun s H C cl fp => b1 (i, s, H, C, cl, fp)) (fun s H C cl fp => c1 (i, s, H, C, cl, fp)) (fun s H C cl fp => d1 (i, s, H, C, cl, fp)) (hs i), simLc a2 b2 c2 d2 hix⟩
/-- y = [..] -/
theorem slcG {wk : Bool} {elt : Expr} {scope : Scope} {py : Pos} {w : T3I} {g3 : T3G} {te : T3E} {ix : List Nat} (n : Nat) (own : List (Str × Nat)) (hi : QI K X wk tg iter w) (hg : QG K (Blk X scope) wk tg g3 ix) (ht : QTs K (Blk X scope) ifs ft) (he : QE K (Blk X scope) elt te)
    (ok : ∀ i, BlkOk (X i).N (X i).env.scope scope own) (hN : ∀ i, (X i).N[n]? = some y) (hyl : ∀ i, (X i).env.scope.names.lookup y = some .local)
    (hsw : ∀ i, swapsWith (.ListComp elt [⟨tg, iter, ifs, 0⟩] scope pos) (some (.Name y py)) spos.line (X i).env = pure true) (hc : ∀ i, (X i).calm = true) (hnd : ∀ i, (X i).N.Nodup)
    (hix : ix.all (fun i => (own.map (·.2)).contains i) = true) (hs : ∀ i x, foldedSetIterable iter (X i).env x = pure x) :
    ∃ t, (∀ i, PS (X i) (.Assign [.Name y py] (.ListComp elt [⟨tg, iter, ifs, 0⟩] scope pos) spos) (tAsg t (gName n))) ∧ SimEO K t (oLc w g3 ft te (own.map (·.2))) :=
  let ⟨_, a1, a2⟩ := hi.ex; let ⟨_, b1, b2⟩ := hg.ex; let ⟨_, c1, c2⟩ := ht.ex; let ⟨_, d1, d2⟩ := he.ex
  ⟨_, fun i => ps_setLc (hc i) (hnd i) (hN i) (hyl i) (hsw i) (a1 i) (ok i) (fun s H C cl fp => b1 (i, s, H, C, cl, fp)) (fun s H C cl fp => c1 (i, s, H, C, cl, fp)) (fun s H C cl fp => d1 (i, s, H, C, cl, fp)) (hs i), simLc a2 b2 c2 d2 hix⟩
theorem slcO {wk : Bool} {elt : Expr} {scope : Scope} {py : Pos} {w : T3I} {g3 : T3G} {te : T3E} {ix : List Nat} (n : Nat) (own : List (Str × Nat)) (hi : QI K X wk tg iter w) (hg : QG K (Blk X scope) wk tg g3 ix) (ht : QTs K (Blk X scope) ifs ft) (he : QE K (Blk X scope) elt te)
    (ok : ∀ i, BlkOk (X i).N (X i).env.scope scope own) (hsw : ∀ i, swapsWith (.ListComp elt [⟨tg, iter, ifs, 0⟩] scope pos) (some (.Name y py)) spos.line (X i).env = pure true) (hN : ∀ i, (X i).N[n]? = some y := by exact fun _ => rfl) (hyl : ∀ i, (X i).env.scope.names.lookup y = some .local := by exact fun _ => rfl)
    (hc : ∀ i, (X i).calm = true := by exact fun _ => rfl) (hnd : ∀ i, (X i).N.Nodup := by exact fun _ => by decide)
    (hix : ix.all (fun i => (own.map (·.2)).contains i) = true := by rfl) (hs : ∀ i x, foldedSetIterable iter (X i).env x = pure x := by exact fun _ _ => rfl) :
    QS K X (.Assign [.Name y py] (.ListComp elt [⟨tg, iter, ifs, 0⟩] scope pos) spos) (sAsgO (oLc w g3 ft te (own.map (·.2))) n) :=
  let ⟨_, h1, h2⟩ := slcG n own hi hg ht he ok hN hyl hsw hc hnd hix hs; ⟨_, h1, simAsgO h2 n⟩
theorem slc {wk : Bool} {elt : Expr} {scope : Scope} {py : Pos} {w : T3I} {g3 : T3G} {te : T3E} {ix : List Nat} (n : Nat) (own : List (Str × Nat)) (hi : QI K X wk tg iter w) (hg : QG K (Blk X scope) wk tg g3 ix) (ht : QTs K (Blk X scope) ifs ft) (he : QE K (Blk X scope) elt te)
    (ok : ∀ i, BlkOk (X i).N (X i).env.scope scope own) (hsw : ∀ i, swapsWith (.ListComp elt [⟨tg, iter, ifs, 0⟩] scope pos) (some (.Name y py)) spos.line (X i).env = pure true) (hN : ∀ i, (X i).N[n]? = some y := by exact fun _ => rfl) (hyl : ∀ i, (X i).env.scope.names.lookup y = some .local := by exact fun _ => rfl)
    (hc : ∀ i, (X i).calm = true := by exact fun _ => rfl) (hnd : ∀ i, (X i).N.Nodup := by exact fun _ => by decide)
    (hix : ix.all (fun i => (own.map (·.2)).contains i) = true := by rfl) (hs : ∀ i x, foldedSetIterable iter (X i).env x = pure x := by exact fun _ _ => rfl) :
    QS K X (.Assign [.Name y py] (.ListComp elt [⟨tg, iter, ifs, 0⟩] scope pos) spos) (sAsg (eShr (oLc w g3 ft te (own.map (·.2)))) (gN n)) :=
  let ⟨_, h1, h2⟩ := slcG n own hi hg ht he ok hN hyl hsw hc hnd hix hs; ⟨_, h1, simAsg (simShr h2) (simGN n)⟩
end

/-! ### defs -/
section
variable {P : Program} {w : World} {K : PySem.W.Frag} {mg : Str → Option Value} {base : Heap} {x qual : Str} {params : Arguments} {body : List Stmt} {scope : Scope} {f : Addr} {fd : FuncData} {N ps : List Str} {k n : Nat} {ms : List Md} {sp : S3} {t3 : T3S}
/-- the context of a def's body -/
abbrev CxD (P : Program) (w : World) (K : PySem.W.Frag) (mg : Str → Option Value) (base : Heap) (N : List Str) (qual : Str) (scope : Scope) (f : Addr) : (Value × Around × List Env × Shared × Hp × XK) → Cx :=
  fun z => (cxOf CX0 P w K mg base N qual scope f z.1 z.2.1 z.2.2.1 z.2.2.2.1 z.2.2.2.2.1 z.2.2.2.2.2).nox
/-- .. where there is room for k calls more -/
abbrev CxR (k : Nat) (P : Program) (w : World) (K : PySem.W.Frag) (mg : Str → Option Value) (base : Heap) (N : List Str) (qual : Str) (scope : Scope) (f : Addr) : {z : Value × Around × List Env × Shared × Hp × XK // Room k (z.2.1.deeper (envOfC qual scope z.2.2.2.1.heap.objs.size f z.1))} → Cx :=
  fun z => CxD P w K mg base N qual scope f z.1
theorem fn3 {dvs : List V} {kws : List (Str × V)} (F : FunD K x qual params body scope dvs kws f fd) (S : FnScope N ps scope) (hl : ps.length = ms.length) (hN : N.length = ms.length + n) (hw : QB K (CxR k P w K mg base N qual scope f) body t3)
    (hsp : ∀ ds QR QO, sp ds QR QO → ds.length = ms.length → t3 (endE ms ds QR QO) (startE n ms ds)) : FnOk P w K mg base CX0 (k + 1) f fd ps (Lift K ms sp) := by
  obtain ⟨t, h1, h2⟩ := hw.ex
  refine F.ok S (fun vs H Q E h => ?_) fun cdv A outer s H vs Q E hr h => ⟨t, PSs.nox (h1 ⟨(cdv, A, outer, s, H, E), hr⟩), body3 h2 hN hsp vs H Q E h⟩
  obtain ⟨U, ds, QR, QO, A, _⟩ := h
  rw [hl]; exact A.l1.symm
theorem c3 (F : FunD K x qual params body scope [] [] f fd) (hm : mg x = some (.ref f)) (hb : Binds K fd ps []) (S : FnScope N ps scope) (hl : ps.length = ms.length) (hN : N.length = ms.length + n) (hw : QB K (CxR k P w K mg base N qual scope f) body t3)
    (hsp : ∀ ds QR QO, sp ds QR QO → ds.length = ms.length → t3 (endE ms ds QR QO) (startE n ms ds)) : C3 P w K mg base (k + 1) x ms sp :=
  ⟨f, fd, ps, fn3 F S hl hN hw hsp, hm, F.kp, hb⟩
theorem C3.mono {j : Nat} (c : C3 P w K mg base j x ms sp) (h : j ≤ k) : C3 P w K mg base k x ms sp := let ⟨f, fd, ps, F, h1, h2, h3⟩ := c.ex; ⟨f, fd, ps, F.mono h, h1, h2, h3⟩
theorem C3.imp {sp' : S3} (c : C3 P w K mg base k x ms sp) (h : ∀ ds QR QO, sp' ds QR QO → sp ds QR QO) : C3 P w K mg base k x ms sp' :=
  let ⟨f, fd, ps, F, h1, h2, h3⟩ := c.ex
  ⟨f, fd, ps, F.imp fun vs H Q E ⟨U, ds, QR, QO, A, q, r⟩ => ⟨U, ds, QR, QO, A, h _ _ _ q, r⟩, h1, h2, h3⟩
end
end L3

set_option Elab.async false
set_option linter.all false
set_option maxRecDepth 100000
namespace L3
open PySem PySem.Spec L2
open PyProof.Rows (b2i envOfC)
section
variable {F : Fr} {U U2 : US} {ρ ρ' ρ2 : En} {σ σ2 : L2.St} {H H' H2 : Hp} {K : PySem.W.Frag}
/-! ### - e -/
def eNeg (f : T3E) : T3E := fun ρ Q => f ρ fun r ρ1 => wd r ρ1 fun d => match d with
  | .int i => Q (.val (.int (-i))) ρ1
  | _ => False
theorem simNeg {t : TE} {f : T3E} (h : SimE K t f) : SimE K (tUn (rU fun i => .int (-i)) t) (eNeg f) := by
  intro F U ρ σ H Q3 Q2 e R q k
  refine h F U ρ σ H _ _ e R q fun r v ρ1 H1 R1 s1 q1 h1 => ?_
  obtain ⟨d, ed, h1⟩ := wd_out h1
  cases d <;> first | exact h1.elim | skip
  exact ⟨_, q1.int R1 ed, k (.val _) _ ρ1 H1 R1 s1 rvI h1⟩
/-! ### d.get(k, x) -/
def eDG2 (fd fy fx : T3E) : T3E := fun ρ Q => fd ρ fun x ρ1 => wd x ρ1 fun dx => match dx with
  | .dic _ => fy ρ1 fun y ρ2 => fx ρ2 fun z ρ3 => match z with
    | .val dz => wdk x y ρ3 fun kvs k => Q (.val ((getD' kvs k).getD dz)) ρ3
    | _ => False
  | _ => False
theorem simDG2 {td ty tx : TE} {fd fy fx : T3E} (h : SimE K td fd) (hy : SimE K ty fy) (hx : SimE K tx fx) : SimE K (tDGet2 td ty tx) (eDG2 fd fy fx) := by
  intro F U ρ σ H Q3 Q2 e R q k
  refine h F U ρ σ H _ _ e R q fun x v ρ1 H1 R1 s1 q1 h1 => ?_
  obtain ⟨d, ed, h1⟩ := wd_out h1
  cases d <;> first | exact h1.elim | skip
  obtain ⟨a, vs, rfl, z1, z2⟩ := q1.dic R1 ed
  refine ⟨a, rfl, .inl ⟨vs, z1⟩, hy F U ρ1 σ H1 _ _ e R1 h1 fun y w ρ2 H2 R2 s2 q2 h2 => ?_⟩
  refine hx F U ρ2 σ H2 _ _ e R2 h2 fun z u ρ3 H3 R3 s3 q3 h3 => ?_
  cases z with
  | sl _ => exact h3.elim
  | bx _ _ _ => exact h3.elim
  | val dz =>
    have q1' : RV F U σ H3 x (.ref a) := (q1.pres (s2.pres R1)).pres (s3.pres R2)
    obtain ⟨a', kvs, ws, j, ea, y1, y2, rfl, h4⟩ := wdk_out R3 q1' (q2.pres (s3.pres R2)) h3
    cases ea
    refine ⟨valV ws j, .inl ⟨ws, j, y1, rfl, rfl⟩, ?_⟩
    rcases y2.get j with ⟨n, n'⟩ | ⟨d', v', n, ev, rv⟩
    · rw [n'] ; rw [n] at h4
      exact k (.val dz) u ρ3 H3 R3 ((s1.trans s2).trans s3) q3 h4
    · rw [ev]; rw [n] at h4
      exact k (.val d') v' ρ3 H3 R3 ((s1.trans s2).trans s3) rv h4
/-! ### a text, sign by sign -/
def signs (z : Str) : List D := z.cps.toList.map fun c => .str ⟨#[c]⟩
def iSt (f : T3E) : T3I := fun ρ Q => f ρ fun r ρ1 => wd r ρ1 fun d => match d with
  | .str z => Q ⟨signs z, .val .non⟩ ρ1
  | _ => False
theorem simISt {t : TE} {f : T3E} (h : SimE K t f) : SimI K false (iStr t) (iSt f) := by
  intro F U ρ σ H Q3 R2 e R q k
  refine h F U ρ σ H _ _ e R q fun r v ρ1 H1 R1 s1 q1 h1 => ?_
  obtain ⟨d, ed, h1⟩ := wd_out h1
  cases d <;> first | exact h1.elim | skip
  rename_i z
  refine ⟨z, q1.str R1 ed, k _ ⟨signs z, .val .non⟩ ρ1 H1 R1 s1 ?_ h1⟩
  intro F2 U2 ρ2 σ2 H2 eK R2' p kp i
  refine ⟨fun d hd => ?_, fun hi => by
    have hi : z.cps.size ≤ i := by simpa [signs] using hi
    exact hi⟩
  unfold signs at hd
  rw [List.getElem?_map] at hd
  obtain ⟨c, hc, rfl⟩ := Option.map_eq_some_iff.mp hd
  have hc2 : z.cps[i]? = some c := by simpa using hc
  refine ⟨(Array.getElem?_eq_some_iff.mp hc2).1, fun x H3 hy => ?_⟩
  obtain ⟨rfl, c', hc', rfl⟩ := hy
  rw [hc2] at hc'; cases hc'
  exact ⟨fun _ _ h => h, .inl rp_str⟩
/-! ### a written dict with text keys -/
structure KD3 (K : PySem.W.Frag) (w : World) (d : Addr) (tbl : List (Str × Int)) : Prop where
  ex : ∃ es n, KDict K w d es n ∧ ∀ z i, tbl.lookup z = some i → ∃ u, PySem.W.nsIn K d z = some (some u) ∧ RelV (.int i) u
def rKIn (K : PySem.W.Frag) (w : World) (neg : Bool) (d : Addr) (tbl : List (Str × Int)) : R2 := fun x y H Q => ∃ z i, x = .str z ∧ y = .ref d ∧ tbl.lookup z = some i ∧ Q (.bl (!neg)) H
theorem op_kin {X : Cx} {d : Addr} {tbl : List (Str × Int)} (D : KD3 X.K X.w d tbl) : OpR X (compareOp .In) (rKIn X.K X.w false d tbl) := by
  intro pins s σ H x y v u Q I rx ry h
  obtain ⟨z, i, rfl, rfl, e, q⟩ := h
  obtain ⟨es, n, D, g⟩ := D.ex
  obtain ⟨u0, h1, h2⟩ := g z i e
  exact op_in_kd D pins s σ H _ _ v u Q I rx ry ⟨z, some u0, rfl, rfl, h1, q⟩
theorem op_knin {X : Cx} {d : Addr} {tbl : List (Str × Int)} (D : KD3 X.K X.w d tbl) : OpR X (compareOp .NotIn) (rKIn X.K X.w true d tbl) := by
  intro pins s σ H x y v u Q I rx ry h
  obtain ⟨z, i, rfl, rfl, e, q⟩ := h
  obtain ⟨es, n, D, g⟩ := D.ex
  obtain ⟨u0, h1, h2⟩ := g z i e
  exact op_notIn_kd D pins s σ H _ _ v u Q I rx ry ⟨z, some u0, rfl, rfl, h1, q⟩
def oKIn (neg : Bool) (dC : Addr) (tbl : List (Str × Int)) (x y : Rs) (ρ : En) (Q : Rs → En → Prop) : Prop := wd x ρ fun dx => wd y ρ fun dy => match dx, dy with
  | .str z, .cls C => C = dC ∧ wo (tbl.lookup z) fun _ => Q (.val (.bl (!neg))) ρ
  | _, _ => False
theorem RV.cls (R : Rel F U ρ σ H) {r : Rs} {v : V} {C : Addr} (h : RV F U σ H r v) (e : r.dat ρ = some (.cls C)) : v = .ref C := by
  rcases h.get R e with q | ⟨a, _, q⟩
  · simpa only [Rp] using q
  · exact q.elim
theorem simKIn {w : World} {neg : Bool} {dC : Addr} {tbl : List (Str × Int)} : SimR2 K (rKIn K w neg dC tbl) (oKIn neg dC tbl) := by
  intro F U ρ σ H x y rx ry Q3 Q2 e R hx hy h k
  obtain ⟨dx, ex, h1⟩ := wd_out h
  obtain ⟨dy, ey, h2⟩ := wd_out h1
  clear h h1
  cases dx <;> first | exact h2.elim | skip
  cases dy <;> first | exact h2.elim | skip
  obtain ⟨e1, h3⟩ := h2
  obtain ⟨i, ei, h3⟩ := wo_out h3
  exact ⟨_, i, hx.str R ex, by rw [hy.cls R ey, e1], ei, k (.val _) _ ρ H R (.refl R) rvB h3⟩
def rKGet (K : PySem.W.Frag) (w : World) (d : Addr) (tbl : List (Str × Int)) : R2 := fun x y H Q => ∃ z i, x = .ref d ∧ y = .str z ∧ tbl.lookup z = some i ∧ Q (.int i) H
theorem ix_kget {X : Cx} {d : Addr} {tbl : List (Str × Int)} (D : KD3 X.K X.w d tbl) : IxR X (rKGet X.K X.w d tbl) := by
  intro value slice pins s σ H x y v u Q I rx ry h hs
  obtain ⟨z, i, rfl, rfl, e, q⟩ := h
  obtain ⟨es, n, D, g⟩ := D.ex
  obtain ⟨u0, h1, h2⟩ := g z i e
  exact ix_kdict value slice pins s σ H _ _ v u Q I rx ry ⟨d, z, .int i, rfl, rfl, ⟨es, n, u0, D.at_, D.lit, h1, h2⟩, q⟩ hs
def oKGet (dC : Addr) (tbl : List (Str × Int)) (x y : Rs) (ρ : En) (Q : Rs → En → Prop) : Prop := wd x ρ fun dx => wd y ρ fun dy => match dx, dy with
  | .cls C, .str z => C = dC ∧ wo (tbl.lookup z) fun i => Q (.val (.int i)) ρ
  | _, _ => False
theorem simKGet {w : World} {dC : Addr} {tbl : List (Str × Int)} : SimR2 K (rKGet K w dC tbl) (oKGet dC tbl) := by
  intro F U ρ σ H x y rx ry Q3 Q2 e R hx hy h k
  obtain ⟨dx, ex, h1⟩ := wd_out h
  obtain ⟨dy, ey, h2⟩ := wd_out h1
  clear h h1
  cases dx <;> first | exact h2.elim | skip
  cases dy <;> first | exact h2.elim | skip
  obtain ⟨e1, h3⟩ := h2
  obtain ⟨i, ei, h3⟩ := wo_out h3
  exact ⟨_, i, by rw [hx.cls R ex, e1], hy.str R ey, ei, k (.val _) _ ρ H R (.refl R) rvI h3⟩
end
section
variable {ι : Type} {X : ι → Cx} {K : PySem.W.Frag} {pos p p2 apos cpos : Pos} {e a b c o : Expr} {f g h : T3E} {x : Str}
theorem istr {tg : Expr} (ha : QE K X e f) : QI K X false tg e (iSt f) := let ⟨_, h1, h2⟩ := ha.ex; ⟨_, fun i => pi_str (h1 i), simISt h2⟩
theorem qneg (ha : QE K X a f) : QE K X (.UnaryOp .USub a pos) (eNeg f) := let ⟨_, h1, h2⟩ := ha.ex; ⟨_, fun i => pe_un un_neg (h1 i), simNeg h2⟩
theorem qdg2 {k : Nat} (hR : ∀ i, Room k (X i).A) (ho : QE K X o f) (he : QE K X a g) (hf : QE K X b h) (m : ∀ i, M2 (X i) o "get" apos a b cpos := by exact fun _ => ⟨rfl, rfl, rfl, rfl⟩) : QE K X (.Call (.Attribute o "get" apos) [a, b] [] cpos) (eDG2 f g h) :=
  let ⟨_, a1, a2⟩ := ho.ex; let ⟨_, b1, b2⟩ := he.ex; let ⟨_, c1, c2⟩ := hf.ex; ⟨_, fun i => pe_dget2 (hu_of (hR i)) (a1 i) (b1 i) (c1 i) (m i), simDG2 a2 b2 c2⟩
theorem cKIn {w : World} {d : Addr} {tbl : List (Str × Int)} (D : ∀ i, KD3 K (X i).w d tbl) (hw : ∀ i, (X i).w = w := by exact fun _ => rfl) (hK : ∀ i, (X i).K = K := by exact fun _ => rfl) : QC K X .In (oKIn false d tbl) :=
  ⟨rKIn K w false d tbl, fun i => by
    have e := hK i; have e2 := hw i; have D := D i; subst e2; subst e; exact op_kin D, simKIn⟩
theorem cKNotIn {w : World} {d : Addr} {tbl : List (Str × Int)} (D : ∀ i, KD3 K (X i).w d tbl) (hw : ∀ i, (X i).w = w := by exact fun _ => rfl) (hK : ∀ i, (X i).K = K := by exact fun _ => rfl) : QC K X .NotIn (oKIn true d tbl) :=
  ⟨rKIn K w true d tbl, fun i => by
    have e := hK i; have e2 := hw i; have D := D i; subst e2; subst e; exact op_knin D, simKIn⟩
theorem qkget {w : World} {d : Addr} {tbl : List (Str × Int)} (D : ∀ i, KD3 K (X i).w d tbl) (ha : QE K X a f) (hb : QE K X b g) (hs : PlainIx b := by exact fun _ _ => rfl) (hw : ∀ i, (X i).w = w := by exact fun _ => rfl) (hK : ∀ i, (X i).K = K := by exact fun _ => rfl) : QE K X (.Subscript a b pos) (eOp (oKGet d tbl) f g) :=
  let ⟨t, h1, h2⟩ := ha.ex; let ⟨u, h3, h4⟩ := hb.ex
  ⟨tOp (rKGet K w d tbl) t u, fun i => by
    have e := hK i; have e2 := hw i; have D := D i; subst e2; subst e; exact pe_ix (ix_kget D) (h1 i) (h3 i) hs, simOp simKGet h2 h4⟩
end
end L3

set_option Elab.async false
set_option linter.all false
set_option maxRecDepth 100000
namespace L3
open PySem PySem.Spec L2
/-! ### a def of the top: its facts, and what a walk makes of them -/
/-- a def as the top has made it, without defaults -/
structure Df (K : PySem.W.Frag) (x qual : Str) (st : Stmt) (f : Addr) : Prop where
  ex : ∃ fd : FuncData, FunD K x qual (defArgs st) (defBody st) (defScope st) [] [] f fd
/-- the parameters take the values one by one -/
def BindN (x qual : Str) (st : Stmt) (ps : List Str) : Prop := ∀ (kV doc pm : Value) (an : Option Addr) (cdv ct : Value) (us : List Value), us.length = ps.length → bindArgs (PySem.W.fnOf x qual (defArgs st) (defBody st) (defScope st) .none kV doc pm an cdv ct) ⟨us, []⟩ = pure (ps.zip us)
section
variable {P : Program} {w : World} {K : PySem.W.Frag} {mg : Str → Option Value} {base : Heap} {x gx qual : Str} {st : Stmt} {f : Addr} {N ps : List Str} {k n : Nat} {ms : List Md} {sp : S3} {t3 : T3S}
theorem df_mk {oc kV doc pm cdv ct : Value} {od an : Option Addr} {sl : Array (Option Value)} (l : K.lookup f = some ⟨oc, od, .func (PySem.W.fnOf x qual (defArgs st) (defBody st) (defScope st) .none kV doc pm an cdv ct), sl⟩) (c : PySem.W.codeIn K cdv qual = true) (kp : PySem.W.keepIn K (.ref f) = true) : Df K x qual st f :=
  ⟨_, ⟨oc, od, .none, kV, doc, pm, an, cdv, ct, sl, rfl, l, c, .inl ⟨rfl, rfl⟩, .inl rfl⟩, kp⟩
theorem fk (F : Df K x qual st f) (hb : BindN x qual st ps) (S : FnScope N ps (defScope st)) (hl : ps.length = ms.length) (hN : N.length = ms.length + n) (hw : QB K (CxR k P w K mg base N qual (defScope st) f) (defBody st) t3)
    (hsp : ∀ ds QR QO, sp ds QR QO → ds.length = ms.length → t3 (endE ms ds QR QO) (startE n ms ds)) : ∃ fd, FnOk P w K mg base CX0 (k + 1) f fd ps (Lift K ms sp) ∧ Binds K fd ps [] := by
  obtain ⟨fd, F⟩ := F.ex
  exact ⟨fd, fn3 F S hl hN hw hsp, F.bindsN hb⟩
theorem ck (F : ∃ f, Df K x qual st f ∧ mg gx = some (.ref f)) (hb : BindN x qual st ps) (S : FnScope N ps (defScope st)) (hl : ps.length = ms.length) (hN : N.length = ms.length + n) (hw : ∀ f, QB K (CxR k P w K mg base N qual (defScope st) f) (defBody st) t3)
    (hsp : ∀ ds QR QO, sp ds QR QO → ds.length = ms.length → t3 (endE ms ds QR QO) (startE n ms ds)) : C3 P w K mg base (k + 1) gx ms sp := by
  obtain ⟨f, F, hm⟩ := F
  obtain ⟨fd, h1, h2⟩ := fk F hb S hl hN (hw f) hsp
  obtain ⟨_, F⟩ := F.ex
  exact ⟨f, fd, ps, h1, hm, F.kp, h2⟩
/-- a promise that is never asked -/
theorem ck0 (F : ∃ f, Df K x qual st f ∧ mg gx = some (.ref f)) (hb : BindN x qual st ps) (S : FnScope N ps (defScope st)) (h0 : ∀ ds QR QO, ¬ sp ds QR QO) : C3 P w K mg base (k + 1) gx ms sp := by
  obtain ⟨f, F, hm⟩ := F
  obtain ⟨fd, F⟩ := F.ex
  refine ⟨f, fd, ps, F.ok S (fun vs H Q E h => ?_) (fun cdv A outer s H vs Q E hr h => ?_), hm, F.kp, F.bindsN hb⟩
  all_goals
    obtain ⟨U, ds, QR, QO, A, h, _⟩ := h
    exact (h0 _ _ _ h).elim
variable {C : Addr} {m : Str}
theorem mk3 (F : ∃ f, Df K x qual st f ∧ Mk K C f ∧ mg gx = some (.ref C)) (hb : BindN x qual st ps) (S : FnScope N ps (defScope st)) (hl : ps.length = ms.length + 1) (hN : N.length = ms.length + 1 + n) (hw : ∀ f, QB K (CxR k P w K mg base N qual (defScope st) f) (defBody st) t3)
    (hsp : ∀ ds QR QO, sp ds QR QO → ds.length = ms.length + 1 → t3 (endE (.par :: ms) ds QR QO) (startE n (.par :: ms) ds)) : Mk3 P w K mg base (k + 1) gx C ms sp := by
  obtain ⟨f, F, M, hm⟩ := F
  obtain ⟨fd, h1, h2⟩ := fk (ms := .par :: ms) F hb S hl hN (hw f) hsp
  exact ⟨f, fd, ps, M, h1, hm, h2⟩
theorem me3 (c : Cls K C) (F : ∃ f, Df K x qual st f ∧ Meth K C m f) (hb : BindN x qual st ps) (S : FnScope N ps (defScope st)) (hl : ps.length = ms.length) (hN : N.length = ms.length + n) (hw : ∀ f, QB K (CxR k P w K mg base N qual (defScope st) f) (defBody st) t3)
    (hsp : ∀ ds QR QO, sp ds QR QO → ds.length = ms.length → t3 (endE ms ds QR QO) (startE n ms ds)) : Me3 P w K mg base (k + 1) C m ms sp := by
  obtain ⟨f, F, M⟩ := F
  obtain ⟨fd, h1, h2⟩ := fk F hb S hl hN (hw f) hsp
  exact ⟨f, fd, ps, c, M, h1, h2⟩
theorem pr3 {md : Md} (c : Cls K C) (F : ∃ p f, Df K x qual st f ∧ PropOf K C m p f) (hb : BindN x qual st ps) (S : FnScope N ps (defScope st)) (hl : ps.length = 1) (hN : N.length = 1 + n) (hw : ∀ f, QB K (CxR k P w K mg base N qual (defScope st) f) (defBody st) t3)
    (hsp : ∀ ds QR QO, sp ds QR QO → ds.length = 1 → t3 (endE [md] ds QR QO) (startE n [md] ds)) : Pr3 P w K mg base (k + 1) C m md sp := by
  obtain ⟨p, f, F, M⟩ := F
  obtain ⟨fd, h1, h2⟩ := fk (ms := [md]) F hb S hl hN (hw f) hsp
  exact ⟨p, f, fd, ps, c, M, h1, h2⟩
theorem op3 {op : CmpOp} (F : ∃ f, Df K x qual st f ∧ PySem.W.findIn K (.ref C) (cmpInfo op).2.1 = some (some (.ref f)) ∧ PySem.W.isFn K (.ref f) = true) (hb : BindN x qual st ps) (S : FnScope N ps (defScope st)) (hl : ps.length = ms.length) (hN : N.length = ms.length + n) (hw : ∀ f, QB K (CxR k P w K mg base N qual (defScope st) f) (defBody st) t3)
    (hsp : ∀ ds QR QO, sp ds QR QO → ds.length = ms.length → t3 (endE ms ds QR QO) (startE n ms ds)) : Op3 P w K mg base (k + 1) C op ms sp := by
  obtain ⟨f, F, M1, M2⟩ := F
  obtain ⟨fd, h1, h2⟩ := fk F hb S hl hN (hw f) hsp
  exact ⟨f, fd, ps, M1, M2, h1, h2⟩
theorem kit_self : PySem.W.kitOne K (.ref C) (.ref C) = some true := by
  unfold PySem.W.kitOne
  exact if_pos (beq_self_eq_true _)
/-- the law's end: the script as the run hands it in -/
theorem hsp3 {q : Nat} (h : ∀ ns : List Int, ns.length ≤ q → ∀ QO, (∀ d ds, ¬ QO d ds) → sp [.scr ns] (fun d _ => d = .bl true) QO) (H : Hp) (a : Addr) (ns : List Int) (hl : ns.length ≤ q) (hO : Only H) (hS : SqL K H a (ns.map V.int)) :
    Lift K [.shr] sp [.ref a] H (fun v _ => v = .bl true) fun _ _ _ => False := by
  refine ⟨fun _ => False, [.scr ns], fun d _ => d = .bl true, fun _ _ => False, ⟨rfl, rfl, ?_, ?_, fun a z => z.elim⟩, h ns hl _ (fun _ _ z => z), ?_, fun _ _ _ _ _ _ _ _ _ z => z.elim⟩
  · intro i m d v h1 h2 h3
    match i, h1, h2, h3 with
    | 0, h1, h2, h3 =>
      cases h1; cases h2; cases h3
      refine ⟨a, rfl, ?_⟩
      rcases hS with (z | z) | z
      · rcases hO a with y | ⟨o, xs, y⟩
        · rw [y] at z; cases z
        · rw [y] at z; cases z
      · obtain ⟨o, z⟩ := z
        exact .inr ⟨o, z, fun z => z⟩
      · exact .inl z
    | i + 1, h1, _, _ => cases h1
  · intro i j m m' d d' v v' x h1 h2 h3 h4 h5 h6 h7 h8
    match i, h1 with
    | 0, h1 => cases h1; exact absurd h7 (reg_noW rfl)
    | i + 1, h1 => cases h1
  · intro v H' U' d ds' _ r e
    subst e
    exact r
end
/-! ### the facts that the head answers -/
section
variable {K : PySem.W.Frag} {h : Heap} {mg : Str → Option Value} {x qual : Str} {st : Stmt} {f C p : Addr} {oc kV doc pm cdv ct : Value} {od an : Option Addr} {sl : Array (Option Value)} {m : Str} {w : World}
theorem dg_mk (X : K.In h) (G : h.Ns mainGlobals mg) (a : PySem.W.nsIn K mainGlobals x = some (some (.ref f))) (l : K.lookup f = some ⟨oc, od, .func (PySem.W.fnOf x qual (defArgs st) (defBody st) (defScope st) .none kV doc pm an cdv ct), sl⟩) (c : PySem.W.codeIn K cdv qual = true) (k : PySem.W.keepIn K (.ref f) = true) :
    ∃ f, Df K x qual st f ∧ mg x = some (.ref f) := ⟨f, df_mk l c k, PySem.W.mg_of X G a⟩
theorem dm_mk {gx : Str} (a : PySem.W.findIn K (.ref C) "__init__" = some (some (.ref f))) (l : K.lookup f = some ⟨oc, od, .func (PySem.W.fnOf x qual (defArgs st) (defBody st) (defScope st) .none kV doc pm an cdv ct), sl⟩) (c : PySem.W.codeIn K cdv qual = true) (k : PySem.W.keepIn K (.ref f) = true)
    (i : PySem.W.isFn K (.ref f) = true) (mk : PySem.W.makesIn K C = true) (kp : PySem.W.keepIn K (.ref C) = true) (g : mg gx = some (.ref C)) : ∃ f, Df K x qual st f ∧ Mk K C f ∧ mg gx = some (.ref C) := ⟨f, df_mk l c k, ⟨mk, a, i, kp⟩, g⟩
theorem de_mk (a : PySem.W.findIn K (.ref C) m = some (some (.ref f))) (l : K.lookup f = some ⟨oc, od, .func (PySem.W.fnOf x qual (defArgs st) (defBody st) (defScope st) .none kV doc pm an cdv ct), sl⟩) (c : PySem.W.codeIn K cdv qual = true) (k : PySem.W.keepIn K (.ref f) = true)
    (i : PySem.W.isFn K (.ref f) = true) : ∃ f, Df K x qual st f ∧ Meth K C m f := ⟨f, df_mk l c k, ⟨a, i, k⟩⟩
theorem do_mk (a : PySem.W.findIn K (.ref C) m = some (some (.ref f))) (l : K.lookup f = some ⟨oc, od, .func (PySem.W.fnOf x qual (defArgs st) (defBody st) (defScope st) .none kV doc pm an cdv ct), sl⟩) (c : PySem.W.codeIn K cdv qual = true) (k : PySem.W.keepIn K (.ref f) = true)
    (i : PySem.W.isFn K (.ref f) = true) : ∃ f, Df K x qual st f ∧ PySem.W.findIn K (.ref C) m = some (some (.ref f)) ∧ PySem.W.isFn K (.ref f) = true := ⟨f, df_mk l c k, a, i⟩
theorem dp_mk {rest : List Value} (a : PySem.W.findIn K (.ref C) m = some (some (.ref p))) (r : PySem.W.recIn K p "property" = some (.ref f :: rest)) (g : PySem.W.specialIn K (.ref p) "__get__" = some (some (.builtin "property.__get__"))) (t : PySem.W.takesIn K (.ref p) = some true)
    (l : K.lookup f = some ⟨oc, od, .func (PySem.W.fnOf x qual (defArgs st) (defBody st) (defScope st) .none kV doc pm an cdv ct), sl⟩) (c : PySem.W.codeIn K cdv qual = true) (k : PySem.W.keepIn K (.ref f) = true) : ∃ p f, Df K x qual st f ∧ PropOf K C m p f :=
  ⟨p, f, df_mk l c k, ⟨a, g, t, rest, r⟩⟩
theorem gl_mk {v : V} {u : Value} (X : K.In h) (G : h.Ns mainGlobals mg) (a : PySem.W.nsIn K mainGlobals x = some (some u)) (r : RelV v u) : ∃ u, mg x = some u ∧ RelV v u := ⟨u, PySem.W.mg_of X G a, r⟩
def TblOk (K : PySem.W.Frag) (d : Addr) : List (Str × Int) → Prop
  | [] => True
  | (z, i) :: r => (∃ u, PySem.W.nsIn K d z = some (some u) ∧ RelV (.int i) u) ∧ TblOk K d r
theorem tb_mk {d : Addr} {z : Str} {i : Int} {u : Value} {r : List (Str × Int)} (a : PySem.W.nsIn K d z = some (some u)) (e : RelV (.int i) u) (n : TblOk K d r) : TblOk K d ((z, i) :: r) := ⟨⟨u, a, e⟩, n⟩
theorem TblOk.get {d : Addr} : ∀ {tbl : List (Str × Int)}, TblOk K d tbl → ∀ z i, tbl.lookup z = some i → ∃ u, PySem.W.nsIn K d z = some (some u) ∧ RelV (.int i) u
  | [], _, z, i, e => by cases e
  | (y, j) :: r, T, z, i, e => by
    rw [List.lookup_cons] at e
    split at e
    · rename_i q
      cases e
      have : z = y := by simpa using q
      subst this
      exact T.1
    · exact TblOk.get T.2 z i e
theorem kd_mk {d : Addr} {es : Array DictEntry} {n : Nat} {tbl : List (Str × Int)} (l : K.lookup d = some ⟨.type "dict", none, .dict es n, #[]⟩) (lit : PySem.W.KeysLit w.params es.toList) (low : (d == sysModules) = false) (T : TblOk K d tbl) : KD3 K w d tbl := ⟨es, n, ⟨l, lit, low⟩, T.get⟩
end
end L3

set_option Elab.async false
set_option linter.all false
set_option maxRecDepth 100000
namespace L3
open PySem PySem.Spec L2
open PyProof.Rows (b2i envOfC)
section
variable {F : Fr} {U U2 : US} {ρ ρ' ρ2 : En} {σ σ2 : L2.St} {H H' H2 : Hp} {K : PySem.W.Frag}
/-! ### an owned slot is frozen: from here on it is shared -/
theorem Rel.freeze (R : Rel F U ρ σ H) {i : Nat} {d : D} (h : ρ[i]? = some (.own d)) : ∃ U', Rel F U' (ρ.set i (.shr d)) σ H := by
  have hi : i < σ.length := by rw [← R.len]; exact (List.getElem?_eq_some_iff.mp h).1
  have hσ : σ[i]? = some σ[i] := List.getElem?_eq_getElem hi
  obtain ⟨a, ea, u, t⟩ := R.slot i _ _ h hσ
  have e3 : σ[i]? = some (some (.ref a)) := hσ.trans (by rw [ea])
  have oa : Own ρ σ a := Own.root h rfl e3
  have P : Pres H U H (fun x => U x ∧ x ≠ a) := fun x o h n => ⟨h, fun z => n z.1⟩
  have own' : ∀ x, Own (ρ.set i (.shr d)) σ x → Own ρ σ x ∧ x ≠ a := fun x ⟨j, s, o, q1, q2, q3⟩ => by
    rcases set_get q1 with ⟨e, rfl, _⟩ | ⟨ne, q1⟩
    · exact absurd q3 (reg_noW rfl)
    · exact ⟨⟨j, s, o, q1, q2, q3⟩, fun e => ne (R.inj i j _ _ _ _ a h q1 e3 q2 ⟨rfl, .inl rfl⟩ (e ▸ q3))⟩
  refine ⟨fun x => U x ∧ x ≠ a, by rw [List.length_set]; exact R.len, fun j s o q1 q2 => ?_, fun j e o q1 q2 => ?_, fun j k s t o o' x q1 q2 q3 q4 q5 q6 => ?_, fun x z => R.tr x z.1, R.keep, R.ktr, fun x o h n z => R.shar x o h n z.1, fun x z n => ⟨R.up x z n, fun e => n (R.own0 (e ▸ oa) z)⟩, fun x z => R.new x (own' x z).1, fun j s l q1 q2 => ?_, R.wu, R.b0, R.u0⟩
  · rcases set_get q1 with ⟨e, rfl, _⟩ | ⟨ne, q1⟩
    · subst e
      rw [e3] at q2; cases q2
      exact ⟨_, rfl, rp_of_top (t.pres P fun _ h => h) fun z => z.2 rfl⟩
    · refine (R.slot j s o q1 q2).pres P fun x hx ux => ⟨⟨ux, fun e => ?_⟩, fun _ h => h⟩
      subst e
      exact ne (R.inj i j _ _ _ _ x h q1 e3 q2 ⟨rfl, .inl rfl⟩ hx)
  · rcases set_get q1 with ⟨e1, e2, _⟩ | ⟨ne, q1⟩
    · cases e2
    · rcases R.bor j e o q1 q2 with ⟨v, e1, q⟩ | ⟨b, e1, q, n⟩
      · exact .inl ⟨v, e1, Rp.pres P e v q⟩
      · exact .inr ⟨b, e1, q.pres P fun _ _ _ h => h, fun x hx z => n x hx (own' x z).1⟩
  · rcases set_get q1 with ⟨e, rfl, _⟩ | ⟨ne, q1'⟩
    · exact absurd q5 (reg_noW rfl)
    · rcases set_get q2 with ⟨e, rfl, _⟩ | ⟨ne2, q2'⟩
      · exact absurd q6 (reg_noW rfl)
      · exact R.inj j k s t o o' x q1' q2' q3 q4 q5 q6
  · rcases set_get q1 with ⟨e, rfl, _⟩ | ⟨ne, q1⟩
    · cases q2
    · exact R.lock j s l q1 q2
def sFrz (i : Nat) (f : T3S) : T3S := fun E ρ => match ρ[i]? with
  | some (.own d) => f E (ρ.set i (.shr d))
  | _ => False
theorem simFrz {t : TS} {f : T3S} (i : Nat) (h : SimS K t f) : SimS K t (sFrz i f) := by
  intro F U ρ σ H D3 D2 e R q k
  have q : (match ρ[i]? with | some (.own d) => f D3 (ρ.set i (.shr d)) | _ => False) := q
  cases hs : ρ[i]? with
  | none => rw [hs] at q; exact q.elim
  | some s =>
    rw [hs] at q
    cases s with
    | own d =>
      obtain ⟨U', R'⟩ := R.freeze hs
      exact h F U' _ σ H D3 D2 e R' q k
    | _ => exact q.elim

/-! ### an instance with boxes: its fields -/
theorem ov_of_rp {d : D} {v : V} (h : Rp K H U d v) : Ov K H U d v := by
  cases d <;> first | exact h | exact (noBx h).elim
theorem OvF.put {f : Str} {d : D} {v : V} : ∀ {ds : List (Str × D)} {vs : List (Str × V)}, OvF K H U ds vs → Ov K H U d v → OvF K H U (putF' f d ds) (putF f v vs)
  | [], _, h, q => by simp only [OvF] at h; subst h; exact ⟨v, [], rfl, q, rfl⟩
  | (k, d') :: ds, _, h, q => by
    simp only [OvF] at h
    obtain ⟨v', r, rfl, h1, h2⟩ := h
    by_cases e : k = f
    · simp only [putF', putF, if_pos e]; exact ⟨v, r, rfl, q, h2⟩
    · simp only [putF', putF, if_neg e]; exact ⟨v', _, rfl, h1, OvF.put h2 q⟩
theorem OvF.len : ∀ {ds : List (Str × D)} {vs : List (Str × V)}, OvF K H U ds vs → vs.length = ds.length
  | [], _, h => by simp only [OvF] at h; rw [h]; rfl
  | (k, d) :: ds, _, h => by
    simp only [OvF] at h
    obtain ⟨v, r, rfl, _, h2⟩ := h
    rw [List.length_cons, List.length_cons, OvF.len h2]
theorem bxsF_cons_sub {k : Str} {d : D} {fs : List (Str × D)} {x : Addr} (h : x ∈ bxsF fs) : x ∈ bxsF ((k, d) :: fs) := by
  cases d <;> first | exact h | exact List.mem_cons_of_mem _ h
theorem bxsF_put_sub {f : Str} {d : D} {x : Addr} : ∀ {fs : List (Str × D)}, x ∈ bxsF (putF' f d fs) → x ∈ bxsF fs ∨ x ∈ bxsF [(f, d)]
  | [], h => .inr h
  | (k, d') :: fs, h => by
    by_cases e : k = f
    · rw [putF', if_pos e] at h
      have h : x ∈ bxsF [(k, d)] ∨ x ∈ bxsF fs := by
        cases d <;> first | exact .inr h | (rcases List.mem_cons.mp h with h | h; exact .inl (by rw [h]; exact List.mem_cons_self ..); exact .inr h)
      rcases h with h | h
      · exact .inr (by rw [← e]; exact h)
      · exact .inl (bxsF_cons_sub h)
    · rw [putF', if_neg e] at h
      have h : x ∈ bxsF [(k, d')] ∨ x ∈ bxsF (putF' f d fs) := by
        cases d' <;> first | exact .inr h | (rcases List.mem_cons.mp h with h | h; exact .inl (by rw [h]; exact List.mem_cons_self ..); exact .inr h)
      rcases h with h | h
      · refine .inl ?_
        cases d' <;> first | (cases h; done) | (rcases List.mem_cons.mp h with h | h; (rw [h]; exact List.mem_cons_self ..); cases h)
      · exact (bxsF_put_sub h).imp bxsF_cons_sub id
theorem bxsF_put_nodup {f : Str} {d : D} (hd : ∀ x, x ∈ bxsF [(f, d)] → True) : ∀ {fs : List (Str × D)}, (bxsF fs).Nodup → (∀ x, x ∈ bxsF [(f, d)] → x ∉ bxsF fs) → (bxsF [(f, d)]).Nodup → (bxsF (putF' f d fs)).Nodup
  | [], _, _, h => h
  | (k, d') :: fs, h, ha, h1 => by
    have tl : (bxsF fs).Nodup := by cases d' <;> first | exact h | exact (List.nodup_cons.mp h).2
    by_cases e : k = f
    · rw [putF', if_pos e]
      cases d <;> first | exact tl | skip
      rename_i b d2
      refine List.nodup_cons.mpr ⟨fun z => ha b (List.mem_cons_self ..) (bxsF_cons_sub z), tl⟩
    · rw [putF', if_neg e]
      have ih := bxsF_put_nodup hd tl (fun x hx z => ha x hx (bxsF_cons_sub z)) h1
      cases d' <;> first | exact ih | skip
      rename_i b d2
      refine List.nodup_cons.mpr ⟨fun z => ?_, ih⟩
      rcases bxsF_put_sub z with z | z
      · exact (List.nodup_cons.mp h).1 z
      · exact ha b z (List.mem_cons_self ..)
/-- the root of an instance with boxes is written; it may have a new box -/
theorem Rel.writeN (R : Rel F U ρ σ H) {i : Nat} {s : Sl} {a : Addr} {d' : D} {o' : HO} (h1 : ρ[i]? = some s) (h2 : s.isW = true) (h3 : σ[i]? = some (some (.ref a)))
    (hb : ∀ y, y ∈ (s.upd d').bxs → y ∈ s.bxs ∨ ((F.W0 y ∨ F.H0 y = none) ∧ ¬ Own ρ σ y ∧ ∀ (j : Nat) (e : D) (b : Addr), ρ[j]? = some (.brw e) → σ[j]? = some (some (.ref b)) → e.reg b y → Rp F.K H U e (.ref b)))
    (new : SlotOk F.K (upd H a o') U (s.upd d') (some (.ref a))) : Rel F U (ρ.set i (s.upd d')) σ (upd H a o') := by
  have hoa : Own ρ σ a := Own.root h1 h2 h3
  have hu : U a := R.ownU hoa
  have p : Pres H U (upd H a o') U := fun y o h n => ⟨by rw [upd_ne (fun e => n (by rw [e]; exact hu))]; exact h, n⟩
  have own' : ∀ y, Own (ρ.set i (s.upd d')) σ y → Own ρ σ y ∨ ((F.W0 y ∨ F.H0 y = none) ∧ ¬ Own ρ σ y ∧ ∀ (j : Nat) (e : D) (b : Addr), ρ[j]? = some (.brw e) → σ[j]? = some (some (.ref b)) → e.reg b y → Rp F.K H U e (.ref b)) := fun y ⟨j, t, o, q1, q2, q3⟩ => by
    rcases set_get q1 with ⟨e, rfl, _⟩ | ⟨_, q1⟩
    · subst e
      rcases q3.2 with z | z
      · exact .inl ⟨i, s, o, h1, q2, h2, .inl z⟩
      · rcases hb y z with z | z
        · exact .inl ⟨i, s, o, h1, q2, h2, .inr z⟩
        · exact .inr z
    · exact .inl ⟨j, t, o, q1, q2, q3⟩
  refine ⟨by rw [List.length_set]; exact R.len, fun j t o q1 q2 => ?_, fun j d o q1 q2 => ?_, fun j k t u o o2 b q1 q2 q3 q4 q5 q6 => ?_, fun y u => ?_, fun y o q n => ?_, fun y o q => ?_, R.shar, R.up, fun y q => ?_, fun j t l q1 q2 => ?_, R.wu, R.b0, R.u0⟩
  · rcases set_get q1 with ⟨e, rfl, _⟩ | ⟨ne, q1⟩
    · subst e
      rw [h3] at q2; cases q2
      exact new
    · refine (R.slot j t o q1 q2).pres p fun y hy u => ⟨u, fun w hw => ?_⟩
      have nb : y ≠ a := fun e => ne (R.inj i j s t _ _ a h1 q1 h3 q2 ⟨h2, .inl rfl⟩ (e ▸ hy))
      rw [upd_ne nb]; exact hw
  · rcases set_get q1 with ⟨e, e2, _⟩ | ⟨ne, q1⟩
    · have : (s.upd d').isW = true := isW_upd.trans h2
      rw [← e2] at this; cases this
    · rcases R.bor j d o q1 q2 with ⟨v, e1, q⟩ | ⟨b, e1, q, n⟩
      · exact .inl ⟨v, e1, Rp.pres p d v q⟩
      · subst e1
        by_cases ex : ∃ y, d.reg b y ∧ Own (ρ.set i (s.upd d')) σ y
        · obtain ⟨y, hy, z⟩ := ex
          rcases own' y z with z | ⟨_, _, z⟩
          · exact absurd z (n y hy)
          · exact .inl ⟨_, rfl, Rp.pres p d _ (z j d b q1 q2 hy)⟩
        · refine .inr ⟨b, rfl, q.pres p (fun y hy w hw => ?_), fun y hy z => ex ⟨y, hy, z⟩⟩
          have nb : y ≠ a := fun e => n y hy (by rw [e]; exact hoa)
          rw [upd_ne nb]; exact hw
  · have f : ∀ {j : Nat} {t : Sl} {o : Option V}, (ρ.set i (s.upd d'))[j]? = some t → σ[j]? = some o → t.reg o b → (∃ t' : Sl, ρ[j]? = some t' ∧ t'.reg o b) ∨ (i = j ∧ ¬ Own ρ σ b) := fun {j t o} q1 q2 q3 => by
      rcases set_get q1 with ⟨e, rfl, _⟩ | ⟨ne, q1⟩
      · subst e
        rcases q3.2 with z | z
        · exact .inl ⟨s, h1, h2, .inl z⟩
        · rcases hb b z with z | z
          · exact .inl ⟨s, h1, h2, .inr z⟩
          · exact .inr ⟨rfl, z.2.1⟩
      · exact .inl ⟨t, q1, q3⟩
    rcases f q1 q3 q5 with ⟨t', z1, z2⟩ | ⟨ei, no⟩
    · rcases f q2 q4 q6 with ⟨u', z3, z4⟩ | ⟨ei, no⟩
      · exact R.inj j k t' u' o o2 b z1 z3 q3 q4 z2 z4
      · exact absurd ⟨j, t', o, z1, q3, z2⟩ no
    · rcases f q2 q4 q6 with ⟨u', z3, z4⟩ | ⟨ei2, no⟩
      · exact absurd ⟨k, u', o2, z3, q4, z4⟩ no
      · exact ei.symm.trans ei2
  · by_cases e : y = a
    · subst e; exact ⟨_, upd_same⟩
    · obtain ⟨o, h⟩ := R.tr y u
      exact ⟨o, by rw [upd_ne e]; exact h⟩
  · have nx : y ≠ a := fun e => by
      subst e
      rcases R.new y hoa with z | z
      · exact n z
      · rw [z] at q; cases q
    rw [upd_ne nx]; exact R.keep y o q n
  · by_cases e : y = a
    · subst e; exact ⟨_, upd_same⟩
    · obtain ⟨o', h⟩ := R.ktr y o q
      exact ⟨o', by rw [upd_ne e]; exact h⟩
  · rcases own' y q with z | z
    · exact R.new y z
    · exact z.1
  · rcases set_get q1 with ⟨e, rfl, _⟩ | ⟨ne, q1⟩
    · subst e; rw [lk_upd h2] at q2; exact R.lock i s l h1 q2
    · exact R.lock j t l q1 q2
/-- the slot of an instance with boxes, with another field -/
def putO (s : Sl) (C : Addr) (f : Str) (x : D) (k : Sl → Prop) : Prop := match s with
  | .owb (.obj C' fs) => C' = C ∧ fs.length < 1000 ∧ k (.owb (.obj C' (putF' f x fs)))
  | .pab (.obj C' fs) => C' = C ∧ fs.length < 1000 ∧ k (.pab (.obj C' (putF' f x fs)))
  | _ => False
theorem putO_out {s : Sl} {C : Addr} {f : Str} {x : D} {k : Sl → Prop} (h : putO s C f x k) : ∃ fs, s.isW = true ∧ s.dat = some (.obj C fs) ∧ fs.length < 1000 ∧ k (s.upd (.obj C (putF' f x fs))) ∧ s.bxs = bxsF fs ∧ (∀ d', (s.upd d').bxs = d'.bxs) ∧
    (∀ {K : PySem.W.Frag} {H : Hp} {U : US} {o : Option V}, SlotOk K H U s o → ∃ a, o = some (.ref a) ∧ U a ∧ TopB K H U (.obj C fs) a) ∧ (∀ {K : PySem.W.Frag} {H : Hp} {U : US} {d' : D} {a : Addr}, U a → TopB K H U d' a → SlotOk K H U (s.upd d') (some (.ref a))) := by
  cases s <;> first | exact h.elim | skip
  all_goals
    rename_i d
    cases d <;> first | exact h.elim | skip
    obtain ⟨rfl, h1, h2⟩ := h
    exact ⟨_, rfl, rfl, h1, h2, rfl, fun _ => rfl, fun h => h, fun u t => ⟨_, rfl, u, t⟩⟩
/-- a field of such an instance is set -/
theorem Rel.setF (R : Rel F U ρ σ H) {i : Nat} {s : Sl} {C : Addr} {f : Str} {x : D} {v : V} {k : Sl → Prop} (h1 : ρ[i]? = some s) {vo : V} (h3 : σ[i]? = some (some vo)) (hp : putO s C f x k)
    (ov : Ov F.K H U x v) (nb : ∀ y, y ∈ bxsF [(f, x)] → (F.W0 y ∨ F.H0 y = none) ∧ ¬ Own ρ σ y ∧ ∀ (j : Nat) (e : D) (b : Addr), ρ[j]? = some (.brw e) → σ[j]? = some (some (.ref b)) → e.reg b y → Rp F.K H U e (.ref b)) :
    ∃ a dx gs s', vo = .ref a ∧ H a = some (.ins C dx gs) ∧ gs.length < 1000 ∧ k s' ∧ Rel F U (ρ.set i s') σ (upd H a (.ins C dx (putF f v gs))) := by
  obtain ⟨fs, w, hd, hl, hk, eb, eb', get, put⟩ := putO_out hp
  obtain ⟨a, ea, ua, dx, gs, g1, g2, g3⟩ := get (R.slot i s _ h1 h3)
  cases ea
  have oa : Own ρ σ a := Own.root h1 w h3
  have P : Pres H U (upd H a (.ins C dx (putF f v gs))) U := fun y o h n => ⟨by rw [upd_ne (fun e => n (by rw [e]; exact ua))]; exact h, n⟩
  have na : ∀ y, y ∈ bxsF (putF' f x fs) → y ≠ a := fun y hy e => by
    subst e
    rcases bxsF_put_sub hy with z | z
    · exact (List.nodup_cons.mp g3).1 z
    · exact (nb y z).2.1 oa
  have new : OvF F.K (upd H a (.ins C dx (putF f v gs))) U (putF' f x fs) (putF f v gs) := (g2.put ov).pres P fun y hy u => ⟨u, fun o h => by rw [upd_ne (na y hy)]; exact h⟩
  have nd : (bxsF (putF' f x fs)).Nodup := by
    refine bxsF_put_nodup (fun _ _ => trivial) (List.nodup_cons.mp g3).2 (fun y hy z => (nb y hy).2.1 ⟨i, s, _, h1, h3, w, .inr (by rw [eb]; exact z)⟩) ?_
    cases x <;> first | exact List.nodup_nil | exact List.nodup_cons.mpr ⟨fun z => (by cases z), List.nodup_nil⟩
  refine ⟨a, dx, gs, _, rfl, g1, by rw [g2.len]; exact hl, hk, R.writeN h1 w h3 (fun y hy => ?_) (put ua ⟨dx, _, upd_same, new, List.nodup_cons.mpr ⟨fun z => na a z rfl, nd⟩⟩)⟩
  rw [eb'] at hy
  rcases bxsF_put_sub (f := f) (d := x) (fs := fs) hy with z | z
  · exact .inl (by rw [eb]; exact z)
  · exact .inr (nb y z)
/-- o.f = a shared value -/
def sFldX (C : Addr) (f : Str) (fv fo : T3E) : T3S := fun E ρ => fv ρ fun r ρ1 => fo ρ1 fun o ρ2 => match r with
  | .val d => match o with
    | .sl i => wo ρ2[i]? fun s => putO s C f d fun s' => E.nx (ρ2.set i s')
    | _ => False
  | _ => False
theorem simFldX {C : Addr} {f : Str} {tv to : TE} {fv fo : T3E} (c : Cls K C) (n : NoAttr K C f) (hv : SimE K tv fv) (ho : SimE K to fo) : SimS K (sFld K to tv f) (sFldX C f fv fo) := by
  intro F U ρ σ H D3 D2 e R q k
  refine hv F U ρ σ H _ _ e R q fun r v ρ1 H1 R1 s1 q1 h1 => ?_
  refine ho F U ρ1 σ H1 _ _ e R1 h1 fun o vo ρ2 H2 R2 s2 q2 h2 => ?_
  cases r <;> first | exact h2.elim | skip
  cases o <;> first | exact h2.elim | skip
  rename_i d i
  obtain ⟨s, es, h2⟩ := wo_out h2
  have rd : Rp F.K H2 U d v := Rp.pres (s2.pres R1) _ _ q1
  have hb : bxsF [(f, d)] = [] := by cases d <;> first | rfl | exact (noBx rd).elim
  obtain ⟨a, dx, gs, s', rfl, z1, z2, z3, R'⟩ := R2.setF (v := v) es (show σ[i]? = _ from q2) h2 (ov_of_rp rd) fun y hy => by rw [hb] at hy; cases hy
  exact ⟨a, C, dx, gs, rfl, z1, e ▸ c, e ▸ n, z2, k.nx _ _ _ _ R' z3⟩
/-- o.f = a new object, which becomes a box -/
def sFldN (C : Addr) (f : Str) (fv : T3O') (fo : T3E) : T3S := fun E ρ => fv ρ fun d ρ1 => fo ρ1 fun o ρ2 => match o with
  | .sl i => wo ρ2[i]? fun s => ∀ b, putO s C f (.bx b d) fun s' => E.nx (ρ2.set i s')
  | _ => False
theorem simFldN {C : Addr} {f : Str} {tv to : TE} {fv : T3O'} {fo : T3E} (c : Cls K C) (n : NoAttr K C f) (hv : SimEO K tv fv) (ho : SimE K to fo) : SimS K (sFld K to tv f) (sFldN C f fv fo) := by
  intro F U ρ σ H D3 D2 e R q k
  refine hv F U ρ σ H _ _ e R q fun d b ρ1 H1 R1 s1 hb t1 h1 => ?_
  refine ho F _ ρ1 σ H1 _ _ e R1 h1 fun o vo ρ2 H2 R2 s2 q2 h2 => ?_
  cases o <;> first | exact h2.elim | skip
  rename_i i
  obtain ⟨s, es, h2⟩ := wo_out h2
  have no1 : ¬ Own ρ1 σ b := fun z => by
    obtain ⟨o, ho⟩ := R.tr b (R.ownU (s1.own b z))
    rw [hb] at ho; cases ho
  have t2 : TopW F.K H2 _ d b := t1.pres (s2.pres R1) fun o h => s2.keep b o h no1
  obtain ⟨a, dx, gs, s', rfl, z1, z2, z3, R'⟩ := R2.setF (v := .ref b) es (show σ[i]? = _ from q2) (h2 b) ⟨rfl, .inr rfl, t2⟩ fun y hy => by
    have : y = b := by
      rcases List.mem_cons.mp (show y ∈ [b] from hy) with h | h
      · exact h
      · cases h
    subst this
    exact ⟨.inr (up_new R hb), fun z => no1 (s2.own y z), fun j e b q1 q2 hr => R2.brwNew R hb q1 q2 hr⟩
  exact ⟨a, C, dx, gs, rfl, z1, e ▸ c, e ▸ n, z2, k.nx _ _ _ _ R' z3⟩
/-- o.f = x, x an owned slot, which is moved there -/
def sFldM (C : Addr) (f : Str) (j : Nat) (fo : T3E) : T3S := fun E ρ => match ρ[j]? with
  | some (.own _) => fo ρ fun o ρ2 => match ρ2[j]? with
    | some (.own d) => match o with
      | .sl i => wo (ρ2.set j .emp)[i]? fun s => ∀ b, putO s C f (.bx b d) fun s' => E.nx ((ρ2.set j .emp).set i s')
      | _ => False
    | _ => False
  | _ => False
theorem simFldM {C : Addr} {f : Str} {j : Nat} {to : TE} {fo : T3E} (c : Cls K C) (n : NoAttr K C f) (ho : SimE K to fo) : SimS K (sFld K to (tVar j) f) (sFldM C f j fo) := by
  intro F U ρ σ H D3 D2 e R q k
  have q : (match ρ[j]? with | some (.own _) => fo ρ _ | _ => False) := q
  cases hj : ρ[j]? with
  | none => rw [hj] at q; exact q.elim
  | some sj =>
    rw [hj] at q
    cases sj <;> first | exact q.elim | skip
    rename_i d0
    have hi : j < σ.length := by rw [← R.len]; exact (List.getElem?_eq_some_iff.mp hj).1
    have hσ : σ[j]? = some σ[j] := List.getElem?_eq_getElem hi
    obtain ⟨b, eb, ub, _⟩ := R.slot j _ _ hj hσ
    have e3 : σ[j]? = some (some (.ref b)) := hσ.trans (by rw [eb])
    refine ⟨.ref b, e3, ho F U ρ σ H _ _ e R q fun o vo ρ2 H2 R2 s2 q2 h2 => ?_⟩
    have h2 : (match ρ2[j]? with | some (.own d) => _ | _ => False) := h2
    cases hj2 : ρ2[j]? with
    | none => rw [hj2] at h2; exact h2.elim
    | some sj2 =>
      rw [hj2] at h2
      cases sj2 <;> first | exact h2.elim | skip
      rename_i d
      obtain ⟨i, rfl⟩ : ∃ i, o = .sl i := by cases o <;> first | exact h2.elim | exact ⟨_, rfl⟩
      obtain ⟨s, es, h2⟩ := wo_out h2
      obtain ⟨b', eb', ub', tb⟩ := R2.slot j _ _ hj2 e3
      cases eb'
      have ob : Own ρ2 σ b := Own.root hj2 rfl e3
      have R3 : Rel F U (ρ2.set j .emp) σ H2 := by
        have := R2.setEmp (i := j) (o := some (.ref b)) hj2 rfl
        rwa [show σ.set j (some (.ref b)) = σ from by
          apply List.ext_getElem?
          intro m
          by_cases em : j = m
          · subst em; rw [List.getElem?_set_self hi, e3]
          · rw [List.getElem?_set_ne em]] at this
      have own3 : ∀ x, Own (ρ2.set j .emp) σ x → Own ρ2 σ x ∧ x ≠ b := fun x ⟨m, t, o, z1, z2, z3⟩ => by
        rcases set_get z1 with ⟨em, rfl, _⟩ | ⟨nm, z1⟩
        · exact absurd z3 (reg_noW rfl)
        · exact ⟨⟨m, t, o, z1, z2, z3⟩, fun ex => nm (R2.inj j m _ _ _ _ b hj2 z1 e3 z2 ⟨rfl, .inl rfl⟩ (ex ▸ z3))⟩
      obtain ⟨a, dx, gs, s', rfl, z1, z2, z3, R'⟩ := R3.setF (v := .ref b) es (show σ[i]? = _ from q2) (h2 b) ⟨rfl, ub', tb⟩ fun y hy => by
        have : y = b := by
          rcases List.mem_cons.mp (show y ∈ [b] from hy) with h | h
          · exact h
          · cases h
        subst this
        refine ⟨R2.new y ob, fun z => (own3 y z).2 rfl, fun m e' b' g1 g2 hr => ?_⟩
        rcases set_get g1 with ⟨em, e1, _⟩ | ⟨nm, g1⟩
        · cases e1
        · rcases R2.bor m e' _ g1 g2 with ⟨v, ev, r⟩ | ⟨b2, ev, _, no⟩
          · cases ev; exact r
          · cases ev; exact absurd ob (no y hr)
      exact ⟨a, C, dx, gs, rfl, z1, e ▸ c, e ▸ n, z2, k.nx _ _ _ _ R' z3⟩

/-! ### a new instance with boxes -/
/-- a fresh instance with boxes -/
def SimEB (K : PySem.W.Frag) (t2 : TE) (t3 : T3O') : Prop :=
  ∀ (F : Fr) (U : US) (ρ : En) (σ : St) (H : Hp) (Q3 : D → En → Prop) (Q2 : VK), F.K = K → Rel F U ρ σ H → t3 ρ Q3 →
    (∀ d a U' ρ' H', Rel F U' ρ' σ H' → U' a → TopB F.K H' U' d a → (∀ x, d.reg a x → F.H0 x = none ∧ ¬ Own ρ' σ x ∧ ∀ (j : Nat) (e : D) (b : Addr), ρ'[j]? = some (.brw e) → σ[j]? = some (some (.ref b)) → e.reg b x → Rp F.K H' U' e (.ref b)) → Q3 d ρ' → Q2 (.ref a) H') → t2 σ H Q2
theorem simOMakeB {C : Addr} {E : XK} {ms : List Md} {sp : S3} {u : TA} {g : T3A} (np : noPab ms = true) (h : SimA K u g) : SimEB K (tMake C (Lift K (.pab :: ms) sp) [] E u) (oMake C ms sp g) := by
  intro F U ρ σ H Q3 Q2 e R q k
  refine h F U ρ σ H _ _ e R q fun rs vs ρ1 H1 R1 s1 q1 ⟨ap, h1⟩ => ?_
  obtain ⟨ds, ed, h1⟩ := wo_out h1
  subst e
  obtain ⟨AO, own⟩ := args_ok R1 q1 ed ap
  intro x dx hx hd hne
  rw [List.append_nil]
  refine ⟨fun b => U b ∨ b = x, .obj C [] :: ds, _, _, make_args (rs := rs) R1 rfl AO own hx hd, h1, fun v H' U' d ds' A rp q => ?_, fun _ _ _ _ _ _ _ _ _ q => q.elim⟩
  obtain ⟨hnon, q⟩ := q
  refine ⟨isNon_rp hnon rp, ?_⟩
  cases ds' with
  | nil => exact q.elim
  | cons o ds'' =>
    have q : Q3 o (updE ms rs ds'' ρ1) := q
    obtain ⟨x', ex', ux, tx⟩ : SlotOk F.K H' U' (.pab o) (some (.ref x)) := A.par 0 .pab (.ref x) o rfl rfl rfl rfl
    cases ex'
    have A' := A.tail hx hd R1.tr fun a w => R1.ownU (own a w)
    obtain ⟨R2, _, k2⟩ := R1.after q1 ed ap A'
    have nw : ∀ y, o.reg x y → H1 y = none := fun y hy => by
      rcases hy with e | hy
      · rw [e]; exact hx
      · rcases A.reg y (wm_cons.mpr (.inl ⟨rfl, .inr hy⟩)) with z | z
        · rcases wm_cons.mp z with z | z
          · rw [reg_obj0 z]; exact hx
          · -- the boxes of the new instance are not what the arguments own
            exfalso
            obtain ⟨i, m, d, v, g1, g2, g3, g4⟩ := z
            have hi : i < ds''.length := by have := (List.getElem?_eq_some_iff.mp g3).1; rw [A'.len]; exact this
            have z' : Wm ms ds'' vs y := (A'.wm AO (sameB_no np) y).mp ⟨i, m, d, v, g1, g2, g3, g4⟩
            obtain ⟨i, m, d, v, g1, g2, g3, g4⟩ := z'
            have := A.inj 0 (i + 1) .pab m o d (.ref x) v y rfl (by simpa using g1) rfl (by simpa using g2) rfl (by simpa using g3) ⟨rfl, .inr hy⟩ g4
            omega
        · cases e : H1 y with
          | none => rfl
          | some u => rw [(old_ins hx hd e).2] at z; cases z
    refine k o x U' _ _ R2 ux tx (fun y hy => ⟨up_new R1 (nw y hy), fun z => ?_, fun j e b g1 g2 hr => R2.brwNew R1 (nw y hy) g1 g2 hr⟩) q
    -- nobody owns it: it would be new for the arguments
    have hl : ds''.length = rs.length := A'.len.trans q1.len.symm
    obtain ⟨j, s', o', g1, g2, g3⟩ := z
    obtain ⟨l1, l2, gg⟩ := argsD_out ed
    obtain ⟨a1, a2⟩ := apart_out ap
    by_cases hj : j ∈ parN ms rs
    · obtain ⟨i, m, p1, w, p2⟩ := parN_ex hj
      have hv : i < vs.length := by have := (List.getElem?_eq_some_iff.mp p2).1; rw [← q1.len]; exact this
      obtain ⟨r, er, rq⟩ := q1.at (List.getElem?_eq_getElem hv)
      rw [p2] at er; cases er
      have hd1 : i < ds.length := by have := q1.len; omega
      have hd2 : i < ds''.length := by rw [A'.len]; exact hv
      obtain ⟨j', s, ej, z1, z2, z3, kn⟩ := par_slot R1 w (gg i m _ _ p1 (List.getElem?_eq_getElem hd1) p2) rq
      cases ej
      rw [updE_yes a1 p1 w p2 (List.getElem?_eq_getElem hd2), z1] at g1
      have g1 : some (if s.isW = true then s.upd ds''[i] else s) = some s' := g1
      rw [if_pos kn.w] at g1
      cases g1
      rw [z3] at g2; cases g2
      have w' : Wm ms ds'' vs y := ⟨i, m, _, _, p1, List.getElem?_eq_getElem hd2, List.getElem?_eq_getElem hv, kn.reg.mpr g3⟩
      obtain ⟨u, hu⟩ := R1.tr y (R1.ownU (own y ((A'.wm AO (sameB_no np) y).mpr w')))
      rw [nw y hy] at hu; cases hu
    · rw [updE_no hj] at g1
      obtain ⟨u, hu⟩ := R1.tr y (R1.ownU ⟨j, s', o', g1, g2, g3⟩)
      rw [nw y hy] at hu; cases hu
/-- x = C(..), x owned, with boxes -/
def sAsgB (f : T3O') (i : Nat) : T3S := fun D ρ => f ρ fun d ρ1 => unl ρ1 i = true ∧ D.nx (ρ1.set i (.owb d))
theorem reg_owb {d : D} {a x : Addr} (h : (Sl.owb d).reg (some (.ref a)) x) : d.reg a x := by
  rcases h.2 with h | h
  · cases h; exact .inl rfl
  · exact .inr h
theorem simAsgB {t : TE} {f : T3O'} (h : SimEB K t f) (i : Nat) : SimS K (tAsg t (gName i)) (sAsgB f i) := fun F U ρ σ H D3 D2 e R q k =>
  h F U ρ σ H _ _ e R q fun d a U' ρ1 H1 R1 ua t1 hr h1 => by
    obtain ⟨s, z1, z2⟩ := unl_out h1.1
    exact k.nx _ _ _ H1 (R1.setNew (s' := .owb d) z1 z2 rfl ⟨a, rfl, ua, t1⟩ (fun x hx => .inr (hr x (reg_owb hx)).1) (fun x hx => (hr x (reg_owb hx)).2.1) fun j e' q1 b q2 ⟨x, hx, hy⟩ => (hr x (reg_owb hy)).2.2 j e' b q1 q2 hx) h1.2

/-- y = x, x owned: it is moved -/
def sMov (j i : Nat) : T3S := fun E ρ => match ρ[j]? with
  | some (.own d) => unl (ρ.set j .emp) i = true ∧ E.nx ((ρ.set j .emp).set i (.own d))
  | _ => False
theorem simMov (j i : Nat) : SimS K (tAsg (tVar j) (gName i)) (sMov j i) := by
  intro F U ρ σ H D3 D2 e R q k
  have q : (match ρ[j]? with | some (.own d) => unl (ρ.set j .emp) i = true ∧ D3.nx ((ρ.set j .emp).set i (.own d)) | _ => False) := q
  cases hj : ρ[j]? with
  | none => rw [hj] at q; exact q.elim
  | some sj =>
    rw [hj] at q
    cases sj <;> first | exact q.elim | skip
    rename_i d
    have hi : j < σ.length := by rw [← R.len]; exact (List.getElem?_eq_some_iff.mp hj).1
    have hσ : σ[j]? = some σ[j] := List.getElem?_eq_getElem hi
    obtain ⟨b, eb, ub, tb⟩ := R.slot j _ _ hj hσ
    have e3 : σ[j]? = some (some (.ref b)) := hσ.trans (by rw [eb])
    have ob : Own ρ σ b := Own.root hj rfl e3
    have R3 : Rel F U (ρ.set j .emp) σ H := by
      have := R.setEmp (i := j) (o := some (.ref b)) hj rfl
      rwa [show σ.set j (some (.ref b)) = σ from by
        apply List.ext_getElem?
        intro m
        by_cases em : j = m
        · subst em; rw [List.getElem?_set_self hi, e3]
        · rw [List.getElem?_set_ne em]] at this
    have own3 : ∀ x, Own (ρ.set j .emp) σ x → Own ρ σ x ∧ x ≠ b := fun x ⟨m, t, o, z1, z2, z3⟩ => by
      rcases set_get z1 with ⟨em, rfl, _⟩ | ⟨nm, z1⟩
      · exact absurd z3 (reg_noW rfl)
      · exact ⟨⟨m, t, o, z1, z2, z3⟩, fun ex => nm (R.inj j m _ _ _ _ b hj z1 e3 z2 ⟨rfl, .inl rfl⟩ (ex ▸ z3))⟩
    obtain ⟨s, z1, z2⟩ := unl_out q.1
    refine ⟨.ref b, e3, k.nx _ _ _ H (R3.setNew (s' := .own d) z1 z2 rfl ⟨b, rfl, ub, tb⟩ (fun x hx => by rw [reg_own hx]; exact R.new b ob) (fun x hx z => by rw [reg_own hx] at z; exact (own3 b z).2 rfl) fun m e' g1 b' g2 ⟨x, hx, hy⟩ => ?_) q.2⟩
    have ex := reg_own hy
    subst ex
    rcases set_get g1 with ⟨em, e1, _⟩ | ⟨nm, g1⟩
    · cases e1
    · rcases R.bor m e' _ g1 g2 with ⟨v, ev, r⟩ | ⟨b2, ev, _, no⟩
      · cases ev; exact r
      · cases ev; exact absurd ob (no x hx)

/-! ### calls that may make boxes, as statements -/
theorem callG {ms : List Md} {sp : S3} {rs : List Rs} {vs : List V} {ds : List D} {ρ1 : En} {H1 : Hp} {Q3 : En → Prop} {Q2 : VK} (R1 : Rel F U ρ1 σ H1) (q1 : RVs F U σ H1 rs vs) (ap : apart ms rs = true) (ed : argsD ms rs ρ1 = some ds)
    (h1 : sp ds (fun _ ds' => Q3 (updE ms rs ds' ρ1)) (fun _ ds' => Q3 (updE ms rs ds' ρ1))) (k : ∀ v U' ρ' H', Rel F U' ρ' σ H' → Q3 ρ' → Q2 v H') (E : XK) : Lift F.K ms sp vs H1 Q2 E := by
  obtain ⟨AO, own⟩ := args_ok R1 q1 ed ap
  exact ⟨U, ds, _, _, AO, h1, fun v H' U' d ds' A rp q => k _ _ _ _ (R1.after q1 ed ap A).1 q, fun a H' U' d ds' A t u nw q => k _ _ _ _ (R1.after q1 ed ap A).1 q⟩
/-- o.m(..), a statement -/
def sMeth (C : Addr) (m : Str) (ms : List Md) (sp : S3) (fo : T3E) (g : T3A) : T3S := fun E ρ => fo ρ fun r ρ1 => wd r ρ1 fun d => match d with
  | .obj C' fs => (C' = C ∧ fs.lookup m = none) ∧ g ρ1 fun rs ρ2 => apart ms (r :: rs) = true ∧ wo (argsD ms (r :: rs) ρ2) fun ds => sp ds (fun _ ds' => E.nx (updE ms (r :: rs) ds' ρ2)) (fun _ ds' => E.nx (updE ms (r :: rs) ds' ρ2))
  | _ => False
theorem simSMeth {C : Addr} {m : Str} {E : XK} {ms : List Md} {sp : S3} {t : TE} {u : TA} {fo : T3E} {g : T3A} (ho : SimE K t fo) (h : SimA K u g) : SimS K (tDrop (tMeth C m (Lift K ms sp) [] E t u)) (sMeth C m ms sp fo g) := by
  intro F U ρ σ H D3 D2 e R q k
  refine ho F U ρ σ H _ _ e R q fun r v ρ0 H0 R0 s0 q0 h0 => ?_
  obtain ⟨d, e1, h0⟩ := wd_out h0
  cases d <;> first | exact h0.elim | skip
  rename_i C' fs
  obtain ⟨⟨ec, hm⟩, h2⟩ := h0
  obtain ⟨a, dx, gs, rfl, z1, z2⟩ := q0.obj R0 e1
  refine ⟨a, dx, gs, rfl, ec ▸ z1, z2.no hm, ?_⟩
  refine h F U ρ0 σ H0 _ _ e R0 h2 fun rs vs ρ1 H1 R1 s1 q1 ⟨ap, h1⟩ => ?_
  obtain ⟨ds, ed, h1⟩ := wo_out h1
  subst e
  have q1 : RVs F U σ H1 (r :: rs) (.ref a :: vs) := .cons (q0.pres (s1.pres R0)) q1
  rw [List.append_nil]
  exact callG R1 q1 ap ed h1 (fun v U' ρ' H' R' q => k.nx _ _ _ _ R' q) E
/-- o.m(..) that changes boxes and makes none -/
def eMethB (C : Addr) (m : Str) (ms : List Md) (sp : S3) (fo : T3E) (g : T3A) : T3E := fun ρ Q => fo ρ fun r ρ1 => wd r ρ1 fun d => match d with
  | .obj C' fs => (C' = C ∧ fs.lookup m = none) ∧ g ρ1 fun rs ρ2 => apart ms (r :: rs) = true ∧ wo (argsD ms (r :: rs) ρ2) fun ds => sp ds (fun d ds' => sameB ms ds ds' ∧ Q (.val d) (updE ms (r :: rs) ds' ρ2)) (fun d ds' => sameB ms ds ds' ∧ Q (.val d) (updE ms (r :: rs) ds' ρ2))
  | _ => False
theorem simMethB {C : Addr} {m : Str} {E : XK} {ms : List Md} {sp : S3} {t : TE} {u : TA} {fo : T3E} {g : T3A} (ho : SimE K t fo) (h : SimA K u g) : SimE K (tMeth C m (Lift K ms sp) [] E t u) (eMethB C m ms sp fo g) := by
  intro F U ρ σ H Q3 Q2 e R q k
  refine ho F U ρ σ H _ _ e R q fun r v ρ0 H0 R0 s0 q0 h0 => ?_
  obtain ⟨d, e1, h0⟩ := wd_out h0
  cases d <;> first | exact h0.elim | skip
  rename_i C' fs
  obtain ⟨⟨ec, hm⟩, h2⟩ := h0
  obtain ⟨a, dx, gs, rfl, z1, z2⟩ := q0.obj R0 e1
  refine ⟨a, dx, gs, rfl, ec ▸ z1, z2.no hm, ?_⟩
  refine h F U ρ0 σ H0 _ _ e R0 h2 fun rs vs ρ1 H1 R1 s1 q1 ⟨ap, h1⟩ => ?_
  obtain ⟨ds, ed, h1⟩ := wo_out h1
  subst e
  have q1 : RVs F U σ H1 (r :: rs) (.ref a :: vs) := .cons (q0.pres (s1.pres R0)) q1
  have s1 := s0.trans s1
  rw [List.append_nil]
  exact callE R s1 R1 q1 ap ed h1 k E
end
end L3

set_option Elab.async false
set_option linter.all false
set_option maxRecDepth 100000
namespace L3
open PySem PySem.Spec L2 PyProof.Rows
/-! ### dicts whose keys are nested tuples: over the heap -/
mutual
/-- the value is this key -/
def NkV (K : PySem.W.Frag) (H : Hp) : NestedKey → V → Prop
  | .none, v => v = .non
  | .num i, v => v = .int i ∨ ∃ b : Bool, v = .bl b ∧ i = if b = true then 1 else 0
  | .text x, v => v = .str x
  | .tup ks, v => ∃ a vs, v = .ref a ∧ SqT K H a vs ∧ NkVs K H ks vs
def NkVs (K : PySem.W.Frag) (H : Hp) : List NestedKey → List V → Prop
  | [], vs => vs = []
  | k :: ks, vs => ∃ v r, vs = v :: r ∧ NkV K H k v ∧ NkVs K H ks r
end
mutual
theorem Rp.nk {K : PySem.W.Frag} {H : Hp} {U : US} : ∀ (d : D) (v : V) (k : NestedKey), d.nk = some k → Rp K H U d v → NkV K H k v
  | .non, v, k, e, h => by simp only [D.nk] at e; cases e; simpa only [Rp, NkV] using h
  | .bl b, v, k, e, h => by simp only [D.nk] at e; cases e; simp only [Rp] at h; exact .inr ⟨b, h, rfl⟩
  | .int i, v, k, e, h => by simp only [D.nk] at e; cases e; simp only [Rp] at h; exact .inl h
  | .str s, v, k, e, h => by simp only [D.nk] at e; cases e; simpa only [Rp, NkV] using h
  | .tup ds, v, k, e, h => by
    simp only [D.nk] at e
    obtain ⟨ks, e1, rfl⟩ := Option.map_eq_some_iff.mp e
    simp only [Rp] at h
    obtain ⟨a, vs, rfl, h1, h2⟩ := h
    exact ⟨a, vs, rfl, h1.sq, RpAll.nk ds vs ks e1 h2⟩
  | .lst _, _, _, e, _ => by simp [D.nk] at e
  | .dic _, _, _, e, _ => by simp [D.nk] at e
  | .dit _, _, _, e, _ => by simp [D.nk] at e
  | .obj _ _, _, _, e, _ => by simp [D.nk] at e
  | .ty _, _, _, e, _ => by simp [D.nk] at e
  | .cls _, _, _, e, _ => by simp [D.nk] at e
  | .scr _, _, _, e, _ => by simp [D.nk] at e
  | .bx _ _, _, _, e, _ => by simp [D.nk] at e
  | .din _ _, _, _, e, _ => by simp [D.nk] at e
theorem RpAll.nk {K : PySem.W.Frag} {H : Hp} {U : US} : ∀ (ds : List D) (vs : List V) (ks : List NestedKey), D.nks ds = some ks → RpAll K H U ds vs → NkVs K H ks vs
  | [], _, ks, e, h => by simp only [D.nks] at e; cases e; simpa only [RpAll, NkVs] using h
  | d :: ds, _, ks, e, h => by
    simp only [D.nks] at e
    cases e1 : d.nk with
    | none => simp [e1] at e
    | some k =>
      cases e2 : D.nks ds with
      | none => simp [e1, e2] at e
      | some ks' =>
        simp only [e1, e2] at e
        cases e
        simp only [RpAll] at h
        obtain ⟨v, r, rfl, h1, h2⟩ := h
        exact ⟨v, r, rfl, Rp.nk d v k e1 h1, RpAll.nk ds r ks' e2 h2⟩
end
section
variable {X : Cx} {pins : List (Addr × Obj)} {σ : L2.St} {H : Hp} {s : Shared} {a b : Addr} {v : V} {u r : Value} {A : Around} {E : Value → Shared → Prop} {xs : List (NestedKey × Addr × Value)} {k : NestedKey}
mutual
theorem NkV.is (I : Inv X pins σ H s) : ∀ (k : NestedKey) (v : V) (u : Value), NkV X.K H k v → RelV v u → NestedIs s.heap k u
  | .none, v, u, h, r => by simp only [NkV] at h; subst h; cases r; exact .none
  | .num i, v, u, h, r => by
    simp only [NkV] at h
    rcases h with rfl | ⟨b, rfl, e⟩
    · obtain ⟨t, rfl⟩ := r; exact .int _ _
    · cases r; exact .bool e
  | .text x, v, u, h, r => by simp only [NkV] at h; subst h; obtain ⟨t, rfl⟩ := r; exact .text _ _
  | .tup ks, v, u, h, r => by
    simp only [NkV] at h
    obtain ⟨a, vs, rfl, h1, h2⟩ := h
    cases r
    obtain ⟨its, rv, ⟨o, e1, e2, n, e3⟩, hz⟩ := I.tuple h1
    exact .tup e1 e2 e3 (by simpa using NkVs.is I ks vs its h2 rv)
theorem NkVs.is (I : Inv X pins σ H s) : ∀ (ks : List NestedKey) (vs : List V) (us : List Value), NkVs X.K H ks vs → Vals vs us → NestedAll s.heap ks us
  | [], vs, us, h, r => by simp only [NkVs] at h; subst h; cases r; exact .nil
  | k :: ks, vs, us, h, r => by
    simp only [NkVs] at h
    obtain ⟨v, w, rfl, h1, h2⟩ := h
    cases r with
    | cons r1 r2 => exact .cons (NkV.is I k v _ h1 r1) (NkVs.is I ks w _ h2 r2)
end
/-- the entries' keys are keys -/
def NkKeys (K : PySem.W.Frag) (H : Hp) (xs : List (NestedKey × Addr × Value)) : Prop := ∀ x ∈ xs, NkV K H x.1 (.ref x.2.1) ∧ x.1.depth ≤ 8
theorem RpN.keys {K : PySem.W.Frag} {U : US} : ∀ {ds : List (D × D)} {xs : List (NestedKey × Addr × Value)}, RpN K H U ds xs → NkKeys K H xs
  | [], _, h => by simp only [RpN] at h; subst h; intro x hx; cases hx
  | (dk, dv) :: ds, _, h => by
    simp only [RpN] at h
    obtain ⟨k, b, u, v, r, rfl, h1, h2, h3, h4, h5, h6⟩ := h
    intro x hx
    rcases List.mem_cons.mp hx with rfl | hx
    · exact ⟨Rp.nk dk _ k h1 h3, h2⟩
    · exact RpN.keys h6 x hx
theorem nested_room (hu : A.units + 9 < cLine) : (nestedKind X.prog X.w).room A.in1 := by
  show A.in1.units + 8 < cLine
  have : A.in1.units ≤ A.units + 1 := by first | exact Nat.le_refl _ | (simp [Around.in1, Around.units]; done) | (show _ ≤ _; simp only [Around.in1]; omega)
  omega
theorem dn_of (I : Inv X pins σ H s) (h : Rd H a (.ext (DNat X.w a xs))) (hk : NkKeys X.K H xs) : xs.length ≤ sizeLine ∧ (a == sysModules) = false ∧ s.heap.DictOfH (nestedKind X.prog X.w) a xs := by
  obtain ⟨⟨o, es, ep, h1, h2, h3, h4, h5, h6, h7⟩, _⟩ := h.ok I.hok
  exact ⟨h6, h7, o, es, ep, h1, h2, h3, h4, fun x hx => ⟨(hk x hx).1.is I _ _ _ rfl, (hk x hx).2⟩, h5⟩
theorem dn_ok (I : Inv X pins σ H s) (h : H a = some (.ext (DNat X.w a xs))) : DNat X.w a xs s.heap := (I.hok a _ h).1
theorem dn_objOk {P : Program} {w : World} {H' : Hp} {h' : Heap} (h : DNat w a xs h') : ObjOk P w H' h' a (.ext (DNat w a xs)) :=
  ⟨h, let ⟨o, _, _, e, _⟩ := h; ⟨o, e⟩, fun h1 h2 ⟨o, es, ep, e, r⟩ k => ⟨o, es, ep, k o e, r⟩⟩
theorem dn_typeIs (I : Inv X pins σ H s) (h : Rd H a (.ext (DNat X.w a xs))) : s.TypeIs (.ref a) "dict" ∧ (∀ b, Value.ref a = .ref b → ∃ ob, s.heap.get? b = some ob ∧ ob.dict = none) ∧ (a == sysModules) = false := by
  obtain ⟨⟨o, es, ep, h1, h2, h3, h4, h5, h6, h7⟩, _⟩ := h.ok I.hok
  exact ⟨⟨o, h1, h2.1⟩, fun b e => by cases e; exact ⟨o, h1, h2.2.1⟩, h7⟩
theorem dn_getItem {Q : Value → Shared → Prop} {p : Addr × Value} (hu : A.units + 9 < cLine) (I : Inv X pins σ H s) (h : Rd H a (.ext (DNat X.w a xs))) (hk : NkKeys X.K H xs) (hb : NkV X.K H k (.ref b)) (hd : k.depth ≤ 8) (hp : atKey xs k = some p)
    (q : ∀ s', Inv X pins σ H s' → Q p.2 s') : wpAny (model X.prog X.w) A (getItem (.ref a) (.ref b)) Q E s := by
  obtain ⟨_, _, dd⟩ := dn_of I h hk
  exact wpAny_getItem_heap (nested_room (X := X) hu) ⟨hb.is I _ _ _ rfl, hd⟩ dd hp (q _ (I.tok _))
theorem dn_in {Q : Value → Shared → Prop} (hu : A.units + 9 < cLine) (I : Inv X pins σ H s) (h : Rd H a (.ext (DNat X.w a xs))) (hk : NkKeys X.K H xs) (hb : NkV X.K H k (.ref b)) (hd : k.depth ≤ 8)
    (q : ∀ s', Inv X pins σ H s' → Q (.bool (atKey xs k).isSome) s') : wpAny (model X.prog X.w) A (compareOp .In (.ref b) (.ref a)) Q E s := by
  obtain ⟨_, h7, dd⟩ := dn_of I h hk
  exact wpAny_in_heap (nested_room (X := X) hu) ⟨hb.is I _ _ _ rfl, hd⟩ h7 dd (q _ (I.tok _))
theorem dn_notIn {Q : Value → Shared → Prop} (hu : A.units + 9 < cLine) (I : Inv X pins σ H s) (h : Rd H a (.ext (DNat X.w a xs))) (hk : NkKeys X.K H xs) (hb : NkV X.K H k (.ref b)) (hd : k.depth ≤ 8)
    (q : ∀ s', Inv X pins σ H s' → Q (.bool (!(atKey xs k).isSome)) s') : wpAny (model X.prog X.w) A (compareOp .NotIn (.ref b) (.ref a)) Q E s := by
  obtain ⟨_, h7, dd⟩ := dn_of I h hk
  exact wpAny_notIn_heap (nested_room (X := X) hu) ⟨hb.is I _ _ _ rfl, hd⟩ h7 dd (q _ (I.tok _))
theorem storedH_len {v : Value} : (storedH xs k b v).length ≤ xs.length + 1 := by
  unfold storedH
  split
  · rw [List.length_map]; omega
  · rw [List.length_append]; exact Nat.le_refl _
theorem dn_setItem {Q : Unit → Shared → Prop} (hu : A.units + 9 < cLine) (I : Inv X pins σ H s) (h : H a = some (.ext (DNat X.w a xs))) (hk : NkKeys X.K H xs) (hb : NkV X.K H k (.ref b)) (hd : k.depth ≤ 8) (hl : xs.length < sizeLine)
    (q : ∀ s', Inv X pins σ (upd H a (.ext (DNat X.w a (storedH xs k b r)))) s' → Q () s') : wpAny (model X.prog X.w) A (setItem (.ref a) (.ref b) r) Q E s := by
  obtain ⟨hz, h7, dd⟩ := dn_of I (.inl h) hk
  refine wpAny_setItem_heap (hsz := hz) (nested_room (X := X) hu) ⟨hb.is I _ _ _ rfl, hd⟩ dd fun h' dd' hs => q _ ?_
  obtain ⟨o, es, ep, e1, e2, e3, e4, e5, e6⟩ := dd'
  have e4 : es.toList = (storedH xs k b r).map (fun x => (⟨x.1.hash X.w, .ref x.2.1, x.2.2⟩ : DictEntry)) := e4
  exact d_write I (by rw [h]; exact True.intro) hs ⟨o, e1⟩ (dn_objOk ⟨o, es, ep, e1, e2, e3, e4, e6, Nat.le_trans storedH_len hl, h7⟩)
theorem dn_get2 {Q : Value → Shared → Prop} (hu : A.units + 9 < cLine) (I : Inv X pins σ H s) (h : Rd H a (.ext (DNat X.w a xs))) (hk : NkKeys X.K H xs) (hb : NkV X.K H k (.ref b)) (hd : k.depth ≤ 8)
    (q : ∀ s', Inv X pins σ H s' → Q (((atKey xs k).map (·.2)).getD r) s') : wpAny (model X.prog X.w) A (call (.builtin "dict.get") [.ref a, .ref b, r]) Q E s := by
  obtain ⟨_, h7, dd⟩ := dn_of I h hk
  exact call_meetsIn PySem.F.slot_dict_get dd.typeIs PySem.F.entry_dict_get (PySem.F.args_dict_get_3 _ _ _) (meetsH_dict_get_default (nestedKind X.prog X.w) a b h7 r) ⟨nested_room (X := X) hu, k, xs, ⟨hb.is I _ _ _ rfl, hd⟩, dd, q _ (I.tok _)⟩
theorem dn_empty {P : Program} {w : World} {H : Hp} (h : Heap) (hb : sysModules < h.objs.size) : ObjOk P w H (h.push { cls := .type "dict", data := .dict #[] }) h.objs.size (.ext (DNat w h.objs.size [])) :=
  dn_objOk ⟨_, #[], 0, Heap.get?_push_size _ rfl, ⟨rfl, rfl, rfl⟩, rfl, rfl, List.nodup_nil, Nat.zero_le _, beq_eq_false_iff_ne.mpr (Ne.symm (Nat.ne_of_lt hb))⟩
end

/-! ### readings and rules -/
def tDNewN (w : World) : TE := fun _ H Q => ∀ p, H p = none → Q (.ref p) (upd H p (.ext (DNat w p [])))
/-- a dict and a key -/
def DNk (K : PySem.W.Frag) (w : World) (H : Hp) (a b : Addr) (xs : List (NestedKey × Addr × Value)) (k : NestedKey) : Prop := Rd H a (.ext (DNat w a xs)) ∧ NkKeys K H xs ∧ NkV K H k (.ref b) ∧ k.depth ≤ 8
def tNGet (K : PySem.W.Frag) (w : World) (td ty : TE) : TE := fun σ H Q => td σ H fun x H1 => ty σ H1 fun y H2 => ∃ a b xs k p v, x = .ref a ∧ y = .ref b ∧ DNk K w H2 a b xs k ∧ atKey xs k = some p ∧ RelV v p.2 ∧ Q v H2
def tNIn (K : PySem.W.Frag) (w : World) (neg : Bool) (ty td : TE) : TE := fun σ H Q => ty σ H fun y H1 => td σ H1 fun x H2 => ∃ a b xs k, x = .ref a ∧ y = .ref b ∧ DNk K w H2 a b xs k ∧ Q (.bl (if neg then !(atKey xs k).isSome else (atKey xs k).isSome)) H2
def sNPut (K : PySem.W.Frag) (w : World) (td ty tv : TE) : TS := fun D σ H => tv σ H fun v H1 => td σ H1 fun x H2 => ty σ H2 fun y H3 => ∃ a b xs k, x = .ref a ∧ y = .ref b ∧ H3 a = some (.ext (DNat w a xs)) ∧ DNk K w H3 a b xs k ∧ xs.length < sizeLine ∧ ∀ u, RelV v u → D.nx σ (upd H3 a (.ext (DNat w a (storedH xs k b u))))
def tNGet2 (K : PySem.W.Frag) (w : World) (td ty tx : TE) : TE := fun σ H Q => td σ H fun x H1 => ∃ a, x = .ref a ∧ (∃ xs, Rd H1 a (.ext (DNat w a xs))) ∧ ty σ H1 fun y H2 => tx σ H2 fun z H3 => ∃ b xs k, y = .ref b ∧ DNk K w H3 a b xs k ∧
  (atKey xs k = none → Q z H3) ∧ ∀ p, atKey xs k = some p → ∃ v, RelV v p.2 ∧ Q v H3
section
variable {X : Cx} {o i e f value : Expr} {pos pos' apos cpos : Pos} {td ty tv tx : TE}
theorem pe_dnewN : PE X (.Dict [] [] pos) (tDNewN X.w) := ⟨fun pins s σ H Q I h =>
  wpAny_Dict_empty ⟨.ref s.heap.objs.size, _, I.laid (a := s.heap.objs.size) (o := .ext (DNat X.w s.heap.objs.size [])) (t' := s.toks) (fun _ _ q => Heap.get?_push_of_some _ q) (Nat.le_refl _) (dn_empty s.heap I.big), rfl, h _ (I.hok.fresh (Nat.le_refl _))⟩⟩
theorem pe_nget (hu : X.A.units + 9 < cLine) (ho : PE X o td) (hi : PE X i ty) (hs : NoSl i) : PE X (.Subscript o i pos) (tNGet X.K X.w td ty) := by
  refine ⟨fun pins s σ H Q I h => ?_⟩
  refine subD_of PySem.F.slot_dict_getitem.lookup hs (thn (ho.run pins s σ H _ I h) fun u s1 ⟨x, H1, I1, rx, q1⟩ => thn (hi.run pins s1 σ H1 _ I1 q1) fun iv s2 ⟨y, H2, I2, ry, a, b, xs, k, p, v, ex, ey, ⟨d1, d2, d3, d4⟩, hp, rv, q2⟩ => ?_)
  subst ex ey
  obtain rfl : u = Value.ref a := rx
  obtain rfl : iv = Value.ref b := ry
  exact ⟨(dn_typeIs I2 d1).1, dn_getItem hu I2 d1 d2 d3 d4 hp fun s3 I3 => ⟨v, H2, I3, rv, q2⟩⟩
theorem pc_nin (hu : X.A.units + 9 < cLine) (hi : PE X i ty) (ho : PE X o td) : PC X .In i o (tNIn X.K X.w false ty td) := by
  refine ⟨fun pins s σ H Q I h => ?_⟩
  refine thn (hi.run pins s σ H _ I h) fun iv s1 ⟨y, H1, I1, ry, q1⟩ => thn (ho.run pins s1 σ H1 _ I1 q1) fun u s2 ⟨x, H2, I2, rx, a, b, xs, k, ex, ey, ⟨d1, d2, d3, d4⟩, q2⟩ => ?_
  subst ex ey
  obtain rfl : u = Value.ref a := rx
  obtain rfl : iv = Value.ref b := ry
  exact dn_in hu I2 d1 d2 d3 d4 fun s3 I3 => ⟨.bl (atKey xs k).isSome, H2, I3, rfl, q2⟩
theorem pc_nnotin (hu : X.A.units + 9 < cLine) (hi : PE X i ty) (ho : PE X o td) : PC X .NotIn i o (tNIn X.K X.w true ty td) := by
  refine ⟨fun pins s σ H Q I h => ?_⟩
  refine thn (hi.run pins s σ H _ I h) fun iv s1 ⟨y, H1, I1, ry, q1⟩ => thn (ho.run pins s1 σ H1 _ I1 q1) fun u s2 ⟨x, H2, I2, rx, a, b, xs, k, ex, ey, ⟨d1, d2, d3, d4⟩, q2⟩ => ?_
  subst ex ey
  obtain rfl : u = Value.ref a := rx
  obtain rfl : iv = Value.ref b := ry
  exact dn_notIn hu I2 d1 d2 d3 d4 fun s3 I3 => ⟨.bl (!(atKey xs k).isSome), H2, I3, rfl, q2⟩
theorem ps_nput (hu : X.A.units + 9 < cLine) (ho : PE X o td) (hi : PE X i ty) (hv : PE X value tv) (hs : swapsWith value (some (.Subscript o i pos')) pos.line X.env = pure false) :
    PS X (.Assign [.Subscript o i pos'] value pos) (sNPut X.K X.w td ty tv) := by
  refine ⟨fun pins s σ H D I h => ?_⟩
  refine wpAny_Assign_Subscript (thn (hv.run pins s σ H _ I h) fun r s1 ⟨v, H1, I1, rv, q1⟩ => thn (ho.run pins s1 σ H1 _ I1 q1) fun u s2 ⟨x, H2, I2, rx, q2⟩ => thn (hi.run pins s2 σ H2 _ I2 q2) fun iv s3 ⟨y, H3, I3, ry, a, b, xs, k, ex, ey, eh, ⟨d1, d2, d3, d4⟩, hl, q3⟩ => ?_) hs
  subst ex ey
  obtain rfl : u = Value.ref a := rx
  obtain rfl : iv = Value.ref b := ry
  exact dn_setItem hu I3 eh d2 d3 d4 hl fun s4 I4 => ⟨σ, _, I4, q3 r rv⟩
theorem pe_nget2 (hu : X.A.units + 9 < cLine) (ho : PE X o td) (he : PE X e ty) (hf : PE X f tx) (m : M2 X o "get" apos e f cpos) : PE X (.Call (.Attribute o "get" apos) [e, f] [] cpos) (tNGet2 X.K X.w td ty tx) := by
  refine ⟨fun pins s σ H Q I h => ?_⟩
  refine wpAny_Call_method m.base m.few m.line PySem.F.plainAttrs_dict PySem.F.slot_dict_get PySem.F.type_dict_get (thn (ho.run pins s σ H _ I h) fun u s1 ⟨x, H1, I1, rx, a, ex, ⟨xs0, d⟩, q1⟩ => ?_)
  subst ex
  obtain rfl : u = Value.ref a := rx
  obtain ⟨t1, t2, _⟩ := dn_typeIs I1 d
  refine ⟨t1, t2, ?_⟩
  rw [m.trees]
  refine Calls.callWith_builtin rfl (Calls.evalArgs_plain (Calls.spliced_cons (thn (he.run pins s1 σ H1 _ I1 q1) fun iv s2 ⟨y, H2, I2, ry, q2⟩ =>
    Calls.spliced_cons (thn (hf.run pins s2 σ H2 _ I2 q2) fun fv s3 ⟨z, H3, I3, rz, b, xs, k, ey, ⟨d1, d2, d3, d4⟩, q3, q4⟩ => Calls.spliced_nil ?_))))
  subst ey
  obtain rfl : iv = Value.ref b := ry
  refine dn_get2 hu I3 d1 d2 d3 d4 fun s4 I4 => ?_
  cases hp : atKey xs k with
  | none => exact ⟨z, H3, I4, rz, q3 hp⟩
  | some p => obtain ⟨v, rv, q⟩ := q4 p hp; exact ⟨v, H3, I4, rv, q⟩
end

/-! ### as data -/
def getN (kvs : List (D × D)) (k : NestedKey) : Option D := (kvs.find? fun p => decide (p.1.nk = some k)).map (·.2)
def putN (kvs : List (D × D)) (dk : D) (k : NestedKey) (d : D) : List (D × D) :=
  if (getN kvs k).isSome = true then kvs.map (fun p => if p.1.nk = some k then (p.1, d) else p) else kvs ++ [(dk, d)]
section
variable {F : Fr} {U U2 : US} {ρ ρ' ρ2 : En} {σ σ2 : L2.St} {H H' H2 : Hp} {K : PySem.W.Frag}
theorem RpN.len : ∀ {ds : List (D × D)} {xs : List (NestedKey × Addr × Value)}, RpN K H U ds xs → xs.length = ds.length
  | [], _, h => by simp only [RpN] at h; subst h; rfl
  | (dk, dv) :: ds, _, h => by
    simp only [RpN] at h
    obtain ⟨k, b, u, v, r, rfl, _, _, _, _, _, h6⟩ := h
    rw [List.length_cons, List.length_cons, RpN.len h6]
theorem RpN.get {k : NestedKey} : ∀ {ds : List (D × D)} {xs : List (NestedKey × Addr × Value)}, RpN K H U ds xs → (getN ds k = none ∧ atKey xs k = none) ∨ ∃ d p v, getN ds k = some d ∧ atKey xs k = some p ∧ RelV v p.2 ∧ Rp K H U d v
  | [], _, h => by simp only [RpN] at h; subst h; exact .inl ⟨rfl, rfl⟩
  | (dk, dv) :: ds, _, h => by
    simp only [RpN] at h
    obtain ⟨k', b, u, v, r, rfl, h1, h2, h3, h4, h5, h6⟩ := h
    by_cases e : k' = k
    · subst e
      exact .inr ⟨dv, (b, u), v, by simp [getN, h1], by simp [atKey], h5, h4⟩
    · have e1 : getN ((dk, dv) :: ds) k = getN ds k := by
        unfold getN
        rw [List.find?_cons_of_neg (by rw [h1]; simpa using e)]
      have e2 : atKey ((k', b, u) :: r) k = atKey r k := by
        unfold atKey
        rw [List.find?_cons_of_neg (by simpa using e)]
      rw [e1, e2]
      exact RpN.get h6
theorem RpN.map {k : NestedKey} {d : D} {v : V} {u : Value} (rd : Rp K H U d v) (ru : RelV v u) : ∀ {ds : List (D × D)} {xs : List (NestedKey × Addr × Value)}, RpN K H U ds xs → RpN K H U (ds.map fun p => if p.1.nk = some k then (p.1, d) else p) (xs.map (putAt k u))
  | [], _, h => by simp only [RpN] at h; subst h; simp [RpN]
  | (dk, dv) :: ds, _, h => by
    simp only [RpN] at h
    obtain ⟨k', b, u', v', r, rfl, h1, h2, h3, h4, h5, h6⟩ := h
    rw [List.map_cons, List.map_cons]
    by_cases e : k' = k
    · have e1 : (if (dk, dv).1.nk = some k then ((dk, dv).1, d) else (dk, dv)) = (dk, d) := by rw [if_pos (by rw [← e]; exact h1)]
      have e2 : putAt k u (k', b, u') = (k', b, u) := by unfold putAt; rw [if_pos e]
      rw [e1, e2]
      simp only [RpN]
      exact ⟨k', b, u, v, _, rfl, h1, h2, h3, rd, ru, RpN.map rd ru h6⟩
    · have e1 : (if (dk, dv).1.nk = some k then ((dk, dv).1, d) else (dk, dv)) = (dk, dv) := by
        rw [if_neg]
        intro z
        have z : dk.nk = some k := z
        rw [h1] at z; cases z; exact e rfl
      have e2 : putAt k u (k', b, u') = (k', b, u') := by unfold putAt; rw [if_neg e]
      rw [e1, e2]
      simp only [RpN]
      exact ⟨k', b, u', v', _, rfl, h1, h2, h3, h4, h5, RpN.map rd ru h6⟩
theorem RpN.snoc {k : NestedKey} {dk d : D} {b : Addr} {v : V} {u : Value} (hk : dk.nk = some k) (hd : k.depth ≤ 8) (rk : Rp K H U dk (.ref b)) (rd : Rp K H U d v) (ru : RelV v u) : ∀ {ds : List (D × D)} {xs : List (NestedKey × Addr × Value)}, RpN K H U ds xs → RpN K H U (ds ++ [(dk, d)]) (xs ++ [(k, b, u)])
  | [], _, h => by simp only [RpN] at h; subst h; simp only [List.nil_append, RpN]; exact ⟨k, b, u, v, [], rfl, hk, hd, rk, rd, ru, rfl⟩
  | (dk', dv) :: ds, _, h => by
    simp only [RpN] at h
    obtain ⟨k', b', u', v', r, rfl, h1, h2, h3, h4, h5, h6⟩ := h
    simp only [List.cons_append, RpN]
    exact ⟨k', b', u', v', _, rfl, h1, h2, h3, h4, h5, RpN.snoc hk hd rk rd ru h6⟩
theorem RpN.put {k : NestedKey} {dk d : D} {b : Addr} {v : V} {u : Value} (hk : dk.nk = some k) (hd : k.depth ≤ 8) (rk : Rp K H U dk (.ref b)) (rd : Rp K H U d v) (ru : RelV v u) {ds : List (D × D)} {xs : List (NestedKey × Addr × Value)} (h : RpN K H U ds xs) : RpN K H U (putN ds dk k d) (storedH xs k b u) := by
  unfold putN storedH
  rcases h.get (k := k) with ⟨e1, e2⟩ | ⟨d', p, v', e1, e2, _⟩
  · rw [e1, e2]
    exact RpN.snoc hk hd rk rd ru h
  · rw [e1, e2]
    exact RpN.map rd ru h
theorem RV.din (R : Rel F U ρ σ H) {r : Rs} {v : V} {w : World} {ds : List (D × D)} (h : RV F U σ H r v) (e : r.dat ρ = some (.din w ds)) : ∃ a xs, v = .ref a ∧ Rd H a (.ext (DNat w a xs)) ∧ RpN F.K H U ds xs := by
  rcases h.get R e with q | ⟨a, e, xs, q1, q2⟩
  · simp only [Rp] at q
    obtain ⟨a, xs, e, h1, _, h2⟩ := q
    exact ⟨a, xs, e, h1, h2⟩
  · exact ⟨a, xs, e, q1, q2⟩
/-- a tuple as a key -/
def wkey (y : Rs) (ρ : En) (k : D → NestedKey → Prop) : Prop := wd y ρ fun dy => match dy with
  | .tup ds => wo (D.nk (.tup ds)) fun j => j.depth ≤ 8 ∧ k (.tup ds) j
  | _ => False
theorem wkey_out (R : Rel F U ρ σ H) {y : Rs} {w : V} {k : D → NestedKey → Prop} (hy : RV F U σ H y w) (h : wkey y ρ k) : ∃ b dy j, w = .ref b ∧ dy.nk = some j ∧ Rp F.K H U dy (.ref b) ∧ j.depth ≤ 8 ∧ k dy j := by
  obtain ⟨dy, ey, h⟩ := wd_out h
  cases dy <;> first | exact h.elim | skip
  obtain ⟨j, ej, hd, h⟩ := wo_out h
  obtain ⟨b, vs, rfl, _, _, r⟩ := hy.tup R ey
  exact ⟨b, _, j, rfl, ej, r, hd, h⟩
def wdn (w : World) (x y : Rs) (ρ : En) (k : List (D × D) → D → NestedKey → Prop) : Prop := wd x ρ fun dx => match dx with
  | .din w' kvs => w' = w ∧ wkey y ρ fun dy j => k kvs dy j
  | _ => False
theorem wdn_out (R : Rel F U ρ σ H) {w : World} {x y : Rs} {v u : V} {k : List (D × D) → D → NestedKey → Prop} (hx : RV F U σ H x v) (hy : RV F U σ H y u) (h : wdn w x y ρ k) :
    ∃ a b xs kvs dy j, v = .ref a ∧ u = .ref b ∧ DNk F.K w H a b xs j ∧ RpN F.K H U kvs xs ∧ dy.nk = some j ∧ Rp F.K H U dy (.ref b) ∧ k kvs dy j := by
  obtain ⟨dx, ex, g⟩ := wd_out h
  cases dx <;> first | exact g.elim | skip
  obtain ⟨rfl, g⟩ := g
  obtain ⟨b, dy, j, rfl, h1, h2, h3, h4⟩ := wkey_out R hy g
  obtain ⟨a, xs, rfl, z1, z2⟩ := hx.din R ex
  exact ⟨a, b, xs, _, dy, j, rfl, rfl, ⟨z1, z2.keys, Rp.nk dy _ j h1 h2, h3⟩, z2, h1, h2, h4⟩
/-- d[k] -/
def eNGet (w : World) (fd fy : T3E) : T3E := fun ρ Q => fd ρ fun x ρ1 => fy ρ1 fun y ρ2 => wdn w x y ρ2 fun kvs _ k => wo (getN kvs k) fun d => Q (.val d) ρ2
theorem simNGet {w : World} {td ty : TE} {fd fy : T3E} (h : SimE K td fd) (h' : SimE K ty fy) : SimE K (tNGet K w td ty) (eNGet w fd fy) := by
  intro F U ρ σ H Q3 Q2 e R q k
  refine h F U ρ σ H _ _ e R q fun x v ρ1 H1 R1 s1 q1 h1 => ?_
  refine h' F U ρ1 σ H1 _ _ e R1 h1 fun y u ρ2 H2 R2 s2 q2 h2 => ?_
  obtain ⟨a, b, xs, kvs, dy, j, rfl, rfl, z1, z2, _, _, h2⟩ := wdn_out R2 (q1.pres (s2.pres R1)) q2 h2
  obtain ⟨d, ed, h2⟩ := wo_out h2
  rcases z2.get (k := j) with ⟨n, _⟩ | ⟨d', p, v', n, ep, rv, rp⟩
  · rw [n] at ed; cases ed
  · rw [n] at ed; cases ed
    exact ⟨a, b, xs, j, p, v', rfl, rfl, e ▸ z1, ep, rv, k (.val d) v' ρ2 H2 R2 (s1.trans s2) rp h2⟩
def fNIn (w : World) (neg : Bool) (fy fd : T3E) : T3E := fun ρ Q => fy ρ fun y ρ1 => fd ρ1 fun x ρ2 => wdn w x y ρ2 fun kvs _ k => Q (.val (.bl (if neg then !(getN kvs k).isSome else (getN kvs k).isSome))) ρ2
theorem simNIn {w : World} (neg : Bool) {td ty : TE} {fd fy : T3E} (h : SimE K td fd) (h' : SimE K ty fy) : SimE K (tNIn K w neg ty td) (fNIn w neg fy fd) := by
  intro F U ρ σ H Q3 Q2 e R q k
  refine h' F U ρ σ H _ _ e R q fun y u ρ1 H1 R1 s1 q1 h1 => ?_
  refine h F U ρ1 σ H1 _ _ e R1 h1 fun x v ρ2 H2 R2 s2 q2 h2 => ?_
  obtain ⟨a, b, xs, kvs, dy, j, rfl, rfl, z1, z2, _, _, h2⟩ := wdn_out R2 q2 (q1.pres (s2.pres R1)) h2
  refine ⟨a, b, xs, j, rfl, rfl, e ▸ z1, k (.val _) _ ρ2 H2 R2 (s1.trans s2) rvB ?_⟩
  rcases z2.get (k := j) with ⟨n, n'⟩ | ⟨d', p, v', n, ep, _, _⟩
  · rw [n] at h2; rw [n']; exact h2
  · rw [n] at h2; rw [ep]; exact h2
/-- d[k] = e -/
def sNPutD (w : World) (f fd fy : T3E) : T3S := fun E ρ => f ρ fun r ρ1 => fd ρ1 fun x ρ2 => fy ρ2 fun y ρ3 => match r with
  | .val d => wkey y ρ3 fun dy j => ww x ρ3 fun dx up => match dx with
    | .din w' kvs => w' = w ∧ kvs.length < sizeLine ∧ E.nx (up (.din w (putN kvs dy j d)))
    | _ => False
  | _ => False
theorem simNPut {w : World} {t td ty : TE} {f fd fy : T3E} (h : SimE K t f) (hd : SimE K td fd) (hy : SimE K ty fy) : SimS K (sNPut K w td ty t) (sNPutD w f fd fy) := by
  intro F U ρ σ H D3 D2 e R q k
  refine h F U ρ σ H _ _ e R q fun r v ρ1 H1 R1 s1 q1 h1 => ?_
  refine hd F U ρ1 σ H1 _ _ e R1 h1 fun o vo ρ2 H2 R2 s2 q2 h2 => ?_
  refine hy F U ρ2 σ H2 _ _ e R2 h2 fun i vi ρ3 H3 R3 s3 q3 h3 => ?_
  cases r <;> first | exact h3.elim | skip
  rename_i d
  obtain ⟨b, dy, j, rfl, y1, y2, y3, h3⟩ := wkey_out R3 q3 h3
  obtain ⟨dl, up, a, rfl, u, t', wr, h3⟩ := ww_out R3 (q2.pres (s3.pres R2)) h3
  cases dl <;> first | exact h3.elim | skip
  rename_i w' kvs
  obtain ⟨rfl, hl, h3⟩ := h3
  obtain ⟨xs, z1, z2⟩ := t'
  have rd : Rp F.K H3 U d v := Rp.pres (s3.pres R2) _ _ (Rp.pres (s2.pres R1) _ _ q1)
  refine ⟨a, b, xs, j, rfl, rfl, z1, e ▸ ⟨.inl z1, z2.keys, Rp.nk dy _ j y1 y2, y3⟩, by rw [z2.len]; exact hl, fun x rx => ?_⟩
  obtain ⟨R', S'⟩ := wr (d' := .din w' (putN kvs dy j d)) ⟨_, upd_same, RpN.pres (pres_w R3 u) _ _ (z2.put y1 y3 y2 rd rx)⟩
  exact k.nx _ _ _ _ R' h3
/-- d.get(k, x) -/
def eNG2 (w : World) (fd fy fx : T3E) : T3E := fun ρ Q => fd ρ fun x ρ1 => wd x ρ1 fun dx => match dx with
  | .din w' _ => w' = w ∧ fy ρ1 fun y ρ2 => fx ρ2 fun z ρ3 => match z with
    | .val dz => wdn w x y ρ3 fun kvs _ k => Q (.val ((getN kvs k).getD dz)) ρ3
    | _ => False
  | _ => False
theorem simNG2 {w : World} {td ty tx : TE} {fd fy fx : T3E} (h : SimE K td fd) (hy : SimE K ty fy) (hx : SimE K tx fx) : SimE K (tNGet2 K w td ty tx) (eNG2 w fd fy fx) := by
  intro F U ρ σ H Q3 Q2 e R q k
  refine h F U ρ σ H _ _ e R q fun x v ρ1 H1 R1 s1 q1 h1 => ?_
  obtain ⟨d, ed, h1⟩ := wd_out h1
  cases d <;> first | exact h1.elim | skip
  obtain ⟨rfl, h1⟩ := h1
  obtain ⟨a, xs0, rfl, z1, z2⟩ := q1.din R1 ed
  refine ⟨a, rfl, ⟨xs0, z1⟩, hy F U ρ1 σ H1 _ _ e R1 h1 fun y w' ρ2 H2 R2 s2 q2 h2 => ?_⟩
  refine hx F U ρ2 σ H2 _ _ e R2 h2 fun z u ρ3 H3 R3 s3 q3 h3 => ?_
  cases z <;> first | exact h3.elim | skip
  rename_i dz
  have q1' : RV F U σ H3 x (.ref a) := (q1.pres (s2.pres R1)).pres (s3.pres R2)
  obtain ⟨a', b, xs, kvs, dy, j, ea, rfl, y1, y2, _, _, h4⟩ := wdn_out R3 q1' (q2.pres (s3.pres R2)) h3
  cases ea
  refine ⟨b, xs, j, rfl, e ▸ y1, fun n' => ?_, fun p hp => ?_⟩
  · rcases y2.get (k := j) with ⟨n, _⟩ | ⟨d', p, v', n, ep, _, _⟩
    · rw [n] at h4
      exact k (.val dz) u ρ3 H3 R3 ((s1.trans s2).trans s3) q3 h4
    · rw [n'] at ep; cases ep
  · rcases y2.get (k := j) with ⟨_, n'⟩ | ⟨d', p', v', n, ep, rv, rp⟩
    · rw [n'] at hp; cases hp
    · rw [hp] at ep; cases ep
      rw [n] at h4
      exact ⟨v', rv, k (.val d') v' ρ3 H3 R3 ((s1.trans s2).trans s3) rp h4⟩
/-- {}, to be such a dict -/
def oDicN (w : World) : T3O' := fun ρ Q => Q (.din w []) ρ
theorem simODicN {w : World} : SimEO K (tDNewN w) (oDicN w) := by
  intro F U ρ σ H Q3 Q2 e R q k
  intro p hp
  obtain ⟨R', S', P⟩ := freshEO R (o := .ext (DNat w p [])) hp
  exact k (.din w []) p ρ _ R' S' hp ⟨[], upd_same, by simp only [RpN]⟩ q
end
end L3

set_option Elab.async false
set_option linter.all false
set_option maxRecDepth 100000
namespace L3
open PySem PySem.Spec L2 PyProof.Rows
/-! ### o[i], o[i] = v by an own class -/
def rOwnGet (C : Addr) (sp : Sp) : R2 := fun x y H Q => ∃ a dx fs, x = .ref a ∧ H a = some (.ins C dx fs) ∧ sp [x, y] H Q E0
def sOwnSet (C : Addr) (sp : Sp) (td ty tv : TE) : TS := fun D σ H => tv σ H fun v H1 => td σ H1 fun x H2 => ty σ H2 fun y H3 => ∃ a dx fs, x = .ref a ∧ H3 a = some (.ins C dx fs) ∧ sp [x, y, v] H3 (fun _ H' => D.nx σ H') E0
section
variable {X : Cx} {C g : Addr} {k : Nat} {fd : FuncData} {ps : List Str} {sp : Sp} {a b value o i : Expr} {ta tb td ty tv : TE} {pos pos' : Pos}
theorem run_in1 {pins : List (Addr × Obj)} {σ : L2.St} {H : Hp} {s : Shared} {Q : VK} {us : List Value} {vs : List V} (F : FnOk X.prog X.w X.K X.mg X.base CX0 k g fd ps sp) (hr : Room (k + 1) X.A) (hb : Binds X.K fd ps [])
    (I : Inv X pins σ H s) (r : Vals vs us) (h : sp vs H Q E0) : wpAny (model X.prog X.w) X.A.in1 (call (.ref g) us) (EP X pins σ Q) X.xe s := by
  have hl : (us ++ []).length = ps.length := by rw [List.append_nil, ← r.length]; exact F.len _ _ _ _ h
  refine wpAny_call (codeAny_mono (F.run X.A.in1 X.stack s H ⟨us, []⟩ (us ++ []) vs Q E0 hr.in1 I.env0.in1 (hb s us I.kIn hl) (by rw [List.append_nil]; exact r) h) fun r s' hq => ?_)
  cases r with
  | error er => exact hq.elim
  | ok fl =>
    cases fl with
    | ret u => exact I.after hq
    | next => exact False.elim hq
    | brk => exact False.elim hq
    | cont => exact False.elim hq
theorem pe_getO (hs : PySem.W.findIn X.K (.ref C) "__getitem__" = some (some (.ref g))) (hf : PySem.W.fnIn X.K g = true) (hfn : PySem.W.isFn X.K (.ref g) = true) (Fn : FnOk X.prog X.w X.K X.mg X.base CX0 k g fd ps sp) (hb : Binds X.K fd ps []) (hr : Room (k + 1) X.A)
    (ha : PE X a ta) (hb' : PE X b tb) (hsl : ∀ ov iv, subscripted b true ov iv = runValue (.builtin "lifetime.subscript" ⟨[ov, iv], []⟩)) : PE X (.Subscript a b pos) (tOp (rOwnGet C sp) ta tb) := by
  refine ⟨fun pins s σ H Q I h => ?_⟩
  refine Subscript_ (binT ha hb' I h fun v u s2 x y H2 I2 rx ry q => ?_)
  obtain ⟨p, dx, fs, rfl, e, q⟩ := q
  cases (show v = Value.ref p from rx)
  obtain ⟨mA, O, _⟩ := ins_get I2.hok e
  obtain ⟨od, J, _⟩ := O.look
  obtain ⟨m, hF⟩ := I2.fr
  exact PySem.W.sub_K hF I2.ok.mod.kin J hs hf hfn (run_in1 (us := [.ref p, u]) (vs := [.ref p, y]) Fn hr hb I2 (.cons rfl (.cons ry .nil)) q) (hsl _ _)
theorem setItem_own {pins : List (Addr × Obj)} {σ : L2.St} {H : Hp} {s : Shared} {p dx : Addr} {fs : List (Str × V)} {y v : V} {u r : Value} {Q : Hp → Prop} (hq : PySem.W.noSeq X.K C = true) (hs : PySem.W.findIn X.K (.ref C) "__setitem__" = some (some (.ref g))) (hfn : PySem.W.isFn X.K (.ref g) = true)
    (Fn : FnOk X.prog X.w X.K X.mg X.base CX0 k g fd ps sp) (hb : Binds X.K fd ps []) (hr : Room k X.A) (I : Inv X pins σ H s) (e : H p = some (.ins C dx fs)) (ry : RelV y u) (rv : RelV v r) (h : sp [.ref p, y, v] H (fun _ H' => Q H') E0) :
    wpAny (model X.prog X.w) X.A (setItem (.ref p) u r) (fun _ s' => ∃ H', Inv X pins σ H' s' ∧ Q H') X.xe s := by
  obtain ⟨mA, O, _⟩ := ins_get I.hok e
  obtain ⟨od, J, _⟩ := O.look
  obtain ⟨m, hF⟩ := I.fr
  have X' := I.ok.mod.kin.keeps hF.keep
  unfold setItem sequenceKey
  refine wpAny_holding (wpAny_bind (wpAny_bind (J.type.here ?_)))
  refine wpAny_bind ((PySem.W.anyM_none X' hq).here ?_)
  rw [if_pos (show (!false) = true from rfl)]
  refine wpAny_pure (wpAny_bind (PySem.W.special_fn X' J hs (beq_iff_eq.mp hfn) ?_))
  refine wpAny_mono (run_fn (us := [.ref p, u, r]) (vs := [.ref p, y, v]) Fn hr hb .nil pass0 I (.cons rfl (.cons ry (.cons rv .nil))) h) (fun w s' z => ?_) fun _ _ x => x
  obtain ⟨z', H', I', _, qz⟩ := z
  exact wpAny_pure ⟨H', I', qz⟩
theorem ps_setO (hq : PySem.W.noSeq X.K C = true) (hs : PySem.W.findIn X.K (.ref C) "__setitem__" = some (some (.ref g))) (hfn : PySem.W.isFn X.K (.ref g) = true) (Fn : FnOk X.prog X.w X.K X.mg X.base CX0 k g fd ps sp) (hb : Binds X.K fd ps []) (hr : Room k X.A)
    (ho : PE X o td) (hi : PE X i ty) (hv : PE X value tv) (hs' : swapsWith value (some (.Subscript o i pos')) pos.line X.env = pure false) : PS X (.Assign [.Subscript o i pos'] value pos) (sOwnSet C sp td ty tv) := by
  refine ⟨fun pins s σ H D I h => ?_⟩
  refine wpAny_Assign_Subscript (thn (hv.run pins s σ H _ I h) fun r s1 ⟨v, H1, I1, rv, q1⟩ => thn (ho.run pins s1 σ H1 _ I1 q1) fun u s2 ⟨x, H2, I2, rx, q2⟩ => thn (hi.run pins s2 σ H2 _ I2 q2) fun iv s3 ⟨y, H3, I3, ry, a, dx, fs, ex, g, q3⟩ => ?_) hs'
  subst ex
  obtain rfl : u = Value.ref a := rx
  exact thn (setItem_own hq hs hfn Fn hb hr I3 g ry rv q3) fun _ s4 ⟨H', I4, q4⟩ => ⟨σ, H', I4, q4⟩
end
section
variable {F : Fr} {U U2 : US} {ρ ρ' ρ2 : En} {σ σ2 : L2.St} {H H' H2 : Hp} {K : PySem.W.Frag}
def oOwnGet (C : Addr) (ms : List Md) (sp : S3) (x y : Rs) (ρ : En) (Q : Rs → En → Prop) : Prop := wd x ρ fun dx => match dx with
  | .obj C' _ => C' = C ∧ apart ms [x, y] = true ∧ wo (argsD ms [x, y] ρ) fun ds => sp ds (fun d ds' => Q (.val d) (updE ms [x, y] ds' ρ)) (fun d ds' => Q (.val d) (updE ms [x, y] ds' ρ))
  | _ => False
theorem simOwnGet {C : Addr} {ms : List Md} {sp : S3} (np : noPab ms = true) : SimR2 K (rOwnGet C (Lift K ms sp)) (oOwnGet C ms sp) := by
  intro F U ρ1 σ H1 x y rx ry Q3 Q2 e R1 hx hy h k
  obtain ⟨dx, ex, h1⟩ := wd_out h
  cases dx <;> first | exact h1.elim | skip
  obtain ⟨e1, ap, h3⟩ := h1
  obtain ⟨ds, ed, h1⟩ := wo_out h3
  obtain ⟨a, da, ga, rfl, z1, z2⟩ := hx.obj R1 ex
  subst e
  refine ⟨a, da, ga, rfl, e1 ▸ z1, ?_⟩
  have q1 : RVs F U σ H1 [rx, ry] [.ref a, y] := .cons hx (.cons hy .nil)
  exact callN np R1 (.refl R1) R1 q1 ap ed h1 k E0
def sOwnSetD (C : Addr) (ms : List Md) (sp : S3) (f fd fy : T3E) : T3S := fun E ρ => f ρ fun r ρ1 => fd ρ1 fun x ρ2 => fy ρ2 fun y ρ3 => wd x ρ3 fun dx => match dx with
  | .obj C' _ => C' = C ∧ apart ms [x, y, r] = true ∧ wo (argsD ms [x, y, r] ρ3) fun ds => sp ds (fun _ ds' => E.nx (updE ms [x, y, r] ds' ρ3)) (fun _ ds' => E.nx (updE ms [x, y, r] ds' ρ3))
  | _ => False
theorem simOwnSet {C : Addr} {ms : List Md} {sp : S3} {t td ty : TE} {f fd fy : T3E} (h : SimE K t f) (hd : SimE K td fd) (hy : SimE K ty fy) : SimS K (sOwnSet C (Lift K ms sp) td ty t) (sOwnSetD C ms sp f fd fy) := by
  intro F U ρ σ H D3 D2 e R q k
  refine h F U ρ σ H _ _ e R q fun r v ρ1 H1 R1 s1 q1 h1 => ?_
  refine hd F U ρ1 σ H1 _ _ e R1 h1 fun x vx ρ2 H2 R2 s2 q2 h2 => ?_
  refine hy F U ρ2 σ H2 _ _ e R2 h2 fun y vy ρ3 H3 R3 s3 q3 h3 => ?_
  obtain ⟨dx, ex, h3⟩ := wd_out h3
  cases dx <;> first | exact h3.elim | skip
  obtain ⟨ec, ap, h3⟩ := h3
  obtain ⟨ds, ed, h3⟩ := wo_out h3
  have q2' := q2.pres (s3.pres R2)
  obtain ⟨a, da, ga, rfl, z1, z2⟩ := q2'.obj R3 ex
  subst e
  refine ⟨a, da, ga, rfl, ec ▸ z1, ?_⟩
  have qq : RVs F U σ H3 [x, y, r] [.ref a, vy, v] := .cons q2' (.cons q3 (.cons ((q1.pres (s2.pres R1)).pres (s3.pres R2)) .nil))
  exact callG R3 qq ap ed h3 (fun _ U' ρ' H' R' q => k.nx _ _ _ _ R' q) E0
end

/-! ### the combined judgements -/
/-- a special method of a class -/
structure Sm3 (P : Program) (w : World) (K : PySem.W.Frag) (mg : Str → Option Value) (base : Heap) (k : Nat) (C : Addr) (m : Str) (ms : List Md) (sp : S3) : Prop where
  ex : ∃ (g : Addr) (fd : FuncData) (ps : List Str), PySem.W.findIn K (.ref C) m = some (some (.ref g)) ∧ PySem.W.fnIn K g = true ∧ PySem.W.isFn K (.ref g) = true ∧ PySem.W.noSeq K C = true ∧ FnOk P w K mg base CX0 k g fd ps (Lift K ms sp) ∧ Binds K fd ps []
structure MkB3 (P : Program) (w : World) (K : PySem.W.Frag) (mg : Str → Option Value) (base : Heap) (k : Nat) (x : Str) (C : Addr) (ms : List Md) (sp : S3) : Prop where
  ex : ∃ (f : Addr) (fd : FuncData) (ps : List Str), Mk K C f ∧ FnOk P w K mg base CX0 k f fd ps (Lift K (.pab :: ms) sp) ∧ mg x = some (.ref C) ∧ Binds K fd ps []
structure QOB {ι : Type} (K : PySem.W.Frag) (X : ι → Cx) (e : Expr) (f : T3O') : Prop where
  ex : ∃ t : TE, (∀ i, PE (X i) e t) ∧ SimEB K t f
section
variable {ι : Type} {X : ι → Cx} {K : PySem.W.Frag} {pos p p2 pos' apos cpos spos : Pos} {e a b c d' tg iter o value : Expr} {es rest ifs : List Expr} {f g h fv fo : T3E} {x y : Str} {st : Stmt} {sts body els : List Stmt} {fs gs : T3S} {ft : T3T} {fa : T3A}
variable {ms : List Md} {sp : S3} {k j : Nat} {C : Addr} {m : Str} {w : World}
theorem sfrz (n : Nat) (h : QS K X st fs) : QS K X st (sFrz n fs) := let ⟨_, a1, a2⟩ := h.ex; ⟨_, a1, simFrz n a2⟩
theorem smov (n m' : Nat) (hN1 : ∀ i, (X i).N[n]? = some y := by exact fun _ => rfl) (hv1 : ∀ i, Vis (X i).env.scope y := by first | exact fun _ => Or.inl rfl | exact fun _ => Or.inr (Or.inl rfl) | exact fun _ => Or.inr (Or.inr rfl))
    (hd : (y == ("__debug__" : Str)) = false := by decide) (hcd : (y == ("__classdict__" : Str)) = false := by decide) (hN : ∀ i, (X i).N[m']? = some x := by exact fun _ => rfl) (hnd : ∀ i, (X i).N.Nodup := by exact fun _ => by decide) (hx : ∀ i, Loc (X i).env.scope x := by first | exact fun _ => Or.inl rfl | exact fun _ => Or.inr rfl)
    (hs : ∀ i, swapsWith (.Name y p) (some (.Name x pos')) pos.line (X i).env = pure false := by exact fun _ => rfl) (hf : ∀ i, (X i).fn x = true ∨ (X i).env.scope.names.lookup x = some .local := by first | exact fun _ => Or.inl rfl | exact fun _ => Or.inr rfl) :
    QS K X (.Assign [.Name x pos'] (.Name y p) pos) (sMov n m') := ⟨_, fun i => ps_set (hnd i) (hN i) (hx i) (pe_var (hN1 i) (hv1 i) hd hcd) (hs i) (hf i), simMov n m'⟩
theorem qfldB (hc : Cls K C) (hn : NoAttr K C m) (ho : QE K X a f) (hK : ∀ i, (X i).K = K := by exact fun _ => rfl) (hb : ∀ i, attributeBase a m (X i).env (eval a (X i).env) = eval a (X i).env := by exact fun _ => rfl) : QE K X (.Attribute a m pos) (eFldB C m f) :=
  let ⟨t, h1, h2⟩ := ho.ex; ⟨tFld K t m, fun i => hK i ▸ pe_fld (h1 i) (hb i), simFldB hc hn h2⟩
theorem sfldX (hc : Cls K C) (hn : NoAttr K C m) (ho : QE K X o fo) (hv : QE K X value fv) (hK : ∀ i, (X i).K = K := by exact fun _ => rfl) (hs : ∀ i, swapsWith value (some (.Attribute o m pos')) pos.line (X i).env = pure false := by exact fun _ => rfl) : QS K X (.Assign [.Attribute o m pos'] value pos) (sFldX C m fv fo) :=
  let ⟨t, a1, a2⟩ := ho.ex; let ⟨u, b1, b2⟩ := hv.ex; ⟨sFld K t u m, fun i => hK i ▸ ps_fld (a1 i) (b1 i) (hs i), simFldX hc hn b2 a2⟩
theorem sfldN {fv : T3O'} (hc : Cls K C) (hn : NoAttr K C m) (ho : QE K X o fo) (hv : QO K X value fv) (hK : ∀ i, (X i).K = K := by exact fun _ => rfl) (hs : ∀ i, swapsWith value (some (.Attribute o m pos')) pos.line (X i).env = pure false := by exact fun _ => rfl) : QS K X (.Assign [.Attribute o m pos'] value pos) (sFldN C m fv fo) :=
  let ⟨t, a1, a2⟩ := ho.ex; let ⟨u, b1, b2⟩ := hv.ex; ⟨sFld K t u m, fun i => hK i ▸ ps_fld (a1 i) (b1 i) (hs i), simFldN hc hn b2 a2⟩
theorem sfldM (n : Nat) (hc : Cls K C) (hn : NoAttr K C m) (ho : QE K X o fo) (hN : ∀ i, (X i).N[n]? = some x := by exact fun _ => rfl) (hv : ∀ i, Vis (X i).env.scope x := by first | exact fun _ => Or.inl rfl | exact fun _ => Or.inr (Or.inl rfl) | exact fun _ => Or.inr (Or.inr rfl))
    (hd : (x == ("__debug__" : Str)) = false := by decide) (hcd : (x == ("__classdict__" : Str)) = false := by decide) (hK : ∀ i, (X i).K = K := by exact fun _ => rfl) (hs : ∀ i, swapsWith (.Name x p) (some (.Attribute o m pos')) pos.line (X i).env = pure false := by exact fun _ => rfl) : QS K X (.Assign [.Attribute o m pos'] (.Name x p) pos) (sFldM C m n fo) :=
  let ⟨t, a1, a2⟩ := ho.ex; ⟨sFld K t (tVar n) m, fun i => hK i ▸ ps_fld (a1 i) (pe_var (hN i) (hv i) hd hcd) (hs i), simFldM hc hn a2⟩
theorem omakeB (cf : ∀ i, MkB3 (X i).prog (X i).w K (X i).mg (X i).base k x C ms sp) (hR : ∀ i, Room j (X i).A) (hk : k + 1 ≤ j) (ha : QA K X (e :: es) fa) (hK : ∀ i, (X i).K = K := by exact fun _ => rfl) (hg : ∀ i, Gl (X i) x := by exact fun _ => rfl) (hdb : (x == ("__debug__" : Str)) = false := by decide)
    (he : ∀ i, starEach (e :: es) (X i).env = (false, eval e (X i).env) :: starEach es (X i).env := by exact fun _ => rfl) (hpl : ∀ i, (backTo pos (starEach es (X i).env)).any (·.1) = false := by exact fun _ => rfl) (np : noPab ms = true := by rfl) :
    QOB K X (.Call (.Name x p) (e :: es) [] pos) (oMake C ms sp fa) :=
  let ⟨u, h1, h2⟩ := ha.ex
  ⟨tMake C (Lift K (.pab :: ms) sp) [] E0 u, fun i => by
    obtain ⟨f, fd, ps, M, F, hm, b⟩ := (cf i).ex
    have e := hK i
    subst e
    exact pe_make M F ((hR i).mono hk) (hg i) hm b .nil pass0 (h1 i) hdb (he i) (hpl i), simOMakeB np h2⟩
theorem ssetB (n : Nat) {f : T3O'} (he : QOB K X e f) (hN : ∀ i, (X i).N[n]? = some x := by exact fun _ => rfl) (hnd : ∀ i, (X i).N.Nodup := by exact fun _ => by decide) (hx : ∀ i, Loc (X i).env.scope x := by first | exact fun _ => Or.inl rfl | exact fun _ => Or.inr rfl)
    (hs : ∀ i, swapsWith e (some (.Name x pos')) pos.line (X i).env = pure false := by exact fun _ => rfl) (hf : ∀ i, (X i).fn x = true ∨ (X i).env.scope.names.lookup x = some .local := by first | exact fun _ => Or.inl rfl | exact fun _ => Or.inr rfl) :
    QS K X (.Assign [.Name x pos'] e pos) (sAsgB f n) := let ⟨_, a1, a2⟩ := he.ex; ⟨_, fun i => ps_set (hnd i) (hN i) (hx i) (a1 i) (hs i) (hf i), simAsgB a2 n⟩
theorem smeth {pl : ι → Sem Bool} (cf : ∀ i, Me3 (X i).prog (X i).w K (X i).mg (X i).base k C m ms sp) (hR : ∀ i, Room j (X i).A) (hk : k ≤ j) (ho : QE K X a f) (ha : QA K X (e :: es) fa) (hK : ∀ i, (X i).K = K := by exact fun _ => rfl)
    (hst : ∀ i, starEach (e :: es) (X i).env = (false, eval e (X i).env) :: starEach es (X i).env := by exact fun _ => rfl) (hpl : ∀ i, (backTo cpos (starEach es (X i).env)).any (·.1) = false := by exact fun _ => rfl)
    (ht : ∀ i, eval (.Call (.Attribute a m apos) (e :: es) [] cpos) (X i).env = (do
      let ov ← eval a (X i).env
      standAt apos.atName
      let (f, first) ← holding [ov] (getMethod ov m (pl i))
      callWith cpos f first (backTo cpos (starEach (e :: es) (X i).env)) (backToKw cpos (keywordEach [] (X i).env))) := by exact fun _ => rfl)
    (hs : ∀ i, swapsWith (.Call (.Attribute a m apos) (e :: es) [] cpos) none pos.line (X i).env = pure false := by exact fun _ => rfl) :
    QS K X (.Expr (.Call (.Attribute a m apos) (e :: es) [] cpos) pos) (sMeth C m ms sp f fa) :=
  let ⟨t, h1, h2⟩ := ho.ex; let ⟨u, h3, h4⟩ := ha.ex
  ⟨tDrop (tMeth C m (Lift K ms sp) [] E0 t u), fun i => by
    obtain ⟨g, fd, ps, c, me, F, b⟩ := (cf i).ex
    have e := hK i
    subst e
    exact ps_expr (pe_meth (h1 i) c me F ((hR i).mono hk) b .nil pass0 (h3 i) (hst i) (hpl i) (ht i)) (hs i), simSMeth h2 h4⟩
theorem qmethB {pl : ι → Sem Bool} (cf : ∀ i, Me3 (X i).prog (X i).w K (X i).mg (X i).base k C m ms sp) (hR : ∀ i, Room j (X i).A) (hk : k ≤ j) (ho : QE K X a f) (ha : QA K X (e :: es) fa) (hK : ∀ i, (X i).K = K := by exact fun _ => rfl)
    (hst : ∀ i, starEach (e :: es) (X i).env = (false, eval e (X i).env) :: starEach es (X i).env := by exact fun _ => rfl) (hpl : ∀ i, (backTo pos (starEach es (X i).env)).any (·.1) = false := by exact fun _ => rfl)
    (ht : ∀ i, eval (.Call (.Attribute a m apos) (e :: es) [] pos) (X i).env = (do
      let ov ← eval a (X i).env
      standAt apos.atName
      let (f, first) ← holding [ov] (getMethod ov m (pl i))
      callWith pos f first (backTo pos (starEach (e :: es) (X i).env)) (backToKw pos (keywordEach [] (X i).env))) := by exact fun _ => rfl) :
    QE K X (.Call (.Attribute a m apos) (e :: es) [] pos) (eMethB C m ms sp f fa) :=
  let ⟨t, h1, h2⟩ := ho.ex; let ⟨u, h3, h4⟩ := ha.ex
  ⟨tMeth C m (Lift K ms sp) [] E0 t u, fun i => by
    obtain ⟨g, fd, ps, c, me, F, b⟩ := (cf i).ex
    have e := hK i
    subst e
    exact pe_meth (h1 i) c me F ((hR i).mono hk) b .nil pass0 (h3 i) (hst i) (hpl i) (ht i), simMethB h2 h4⟩
theorem qgetO (cf : ∀ i, Sm3 (X i).prog (X i).w K (X i).mg (X i).base k C "__getitem__" ms sp) (hR : ∀ i, Room j (X i).A) (hk : k + 1 ≤ j) (ha : QE K X a f) (hb : QE K X b g) (hK : ∀ i, (X i).K = K := by exact fun _ => rfl)
    (hsl : ∀ ov iv, subscripted b true ov iv = runValue (.builtin "lifetime.subscript" ⟨[ov, iv], []⟩) := by exact fun _ _ => rfl) (np : noPab ms = true := by rfl) : QE K X (.Subscript a b pos) (eOp (oOwnGet C ms sp) f g) :=
  let ⟨t, h1, h2⟩ := ha.ex; let ⟨u, h3, h4⟩ := hb.ex
  ⟨tOp (rOwnGet C (Lift K ms sp)) t u, fun i => by
    obtain ⟨g, fd, ps, a1, a2, a3, a4, F, bd⟩ := (cf i).ex
    have e := hK i
    subst e
    exact pe_getO a1 a2 a3 F bd ((hR i).mono hk) (h1 i) (h3 i) hsl, simOp (simOwnGet np) h2 h4⟩
theorem ssetO' {i' : Expr} (cf : ∀ i, Sm3 (X i).prog (X i).w K (X i).mg (X i).base k C "__setitem__" ms sp) (hR : ∀ i, Room j (X i).A) (hk : k ≤ j) (he : QE K X e f) (ho : QE K X o fo) (hi : QE K X i' h) (hK : ∀ i, (X i).K = K := by exact fun _ => rfl)
    (hs : ∀ i, swapsWith e (some (.Subscript o i' pos')) pos.line (X i).env = pure false := by exact fun _ => rfl) : QS K X (.Assign [.Subscript o i' pos'] e pos) (sOwnSetD C ms sp f fo h) :=
  let ⟨t, h1, h2⟩ := he.ex; let ⟨u, h3, h4⟩ := ho.ex; let ⟨v, h5, h6⟩ := hi.ex
  ⟨sOwnSet C (Lift K ms sp) u v t, fun i => by
    obtain ⟨g, fd, ps, a1, a2, a3, a4, F, bd⟩ := (cf i).ex
    have e := hK i
    subst e
    exact ps_setO a4 a1 a3 F bd ((hR i).mono hk) (h3 i) (h5 i) (h1 i) (hs i), simOwnSet h2 h4 h6⟩
theorem hu9 {A : Around} {k : Nat} (hr : Room k A) : A.units + 9 < cLine := by have := hr.un; omega
theorem odicN (hw : ∀ i, (X i).w = w := by exact fun _ => rfl) : QO K X (.Dict [] [] pos) (oDicN w) := ⟨tDNewN w, fun i => hw i ▸ pe_dnewN, simODicN⟩
theorem qnget (hR : ∀ i, Room k (X i).A) (ha : QE K X a f) (hb : QE K X b g) (hs : NoSl b := by exact fun _ _ => rfl) (hw : ∀ i, (X i).w = w := by exact fun _ => rfl) (hK : ∀ i, (X i).K = K := by exact fun _ => rfl) : QE K X (.Subscript a b pos) (eNGet w f g) :=
  let ⟨t, h1, h2⟩ := ha.ex; let ⟨u, h3, h4⟩ := hb.ex; ⟨tNGet K w t u, fun i => by have e := hK i; have e2 := hw i; subst e; subst e2; exact pe_nget (hu9 (hR i)) (h1 i) (h3 i) hs, simNGet h2 h4⟩
theorem qnin (hR : ∀ i, Room k (X i).A) (hi : QE K X a f) (ho : QE K X b g) (hm : behindInMarks .In b = false := by rfl) (hw : ∀ i, (X i).w = w := by exact fun _ => rfl) (hK : ∀ i, (X i).K = K := by exact fun _ => rfl) : QE K X (.Compare a [.In] [b] pos) (fNIn w false f g) :=
  let ⟨t, h1, h2⟩ := hi.ex; let ⟨u, h3, h4⟩ := ho.ex; ⟨tNIn K w false t u, fun i => by have e := hK i; have e2 := hw i; subst e; subst e2; exact pe_cmp (pc_nin (hu9 (hR i)) (h1 i) (h3 i)) hm, simNIn false h4 h2⟩
theorem qnnotin (hR : ∀ i, Room k (X i).A) (hi : QE K X a f) (ho : QE K X b g) (hm : behindInMarks .NotIn b = false := by rfl) (hw : ∀ i, (X i).w = w := by exact fun _ => rfl) (hK : ∀ i, (X i).K = K := by exact fun _ => rfl) : QE K X (.Compare a [.NotIn] [b] pos) (fNIn w true f g) :=
  let ⟨t, h1, h2⟩ := hi.ex; let ⟨u, h3, h4⟩ := ho.ex; ⟨tNIn K w true t u, fun i => by have e := hK i; have e2 := hw i; subst e; subst e2; exact pe_cmp (pc_nnotin (hu9 (hR i)) (h1 i) (h3 i)) hm, simNIn true h4 h2⟩
theorem tnin (hR : ∀ i, Room k (X i).A) (hi : QE K X a f) (ho : QE K X b g) (hm : behindInMarks .In b = false := by rfl) (hw : ∀ i, (X i).w = w := by exact fun _ => rfl) (hK : ∀ i, (X i).K = K := by exact fun _ => rfl) : QT K X (.Compare a [.In] [b] pos) (fTst (fNIn w false f g)) :=
  let ⟨t, h1, h2⟩ := hi.ex; let ⟨u, h3, h4⟩ := ho.ex; ⟨tTest (tNIn K w false t u), fun i => by have e := hK i; have e2 := hw i; subst e; subst e2; exact pt_cmp (pc_nin (hu9 (hR i)) (h1 i) (h3 i)) hm, simTst (simNIn false h4 h2)⟩
theorem tnnotin (hR : ∀ i, Room k (X i).A) (hi : QE K X a f) (ho : QE K X b g) (hm : behindInMarks .NotIn b = false := by rfl) (hw : ∀ i, (X i).w = w := by exact fun _ => rfl) (hK : ∀ i, (X i).K = K := by exact fun _ => rfl) : QT K X (.Compare a [.NotIn] [b] pos) (fTst (fNIn w true f g)) :=
  let ⟨t, h1, h2⟩ := hi.ex; let ⟨u, h3, h4⟩ := ho.ex; ⟨tTest (tNIn K w true t u), fun i => by have e := hK i; have e2 := hw i; subst e; subst e2; exact pt_cmp (pc_nnotin (hu9 (hR i)) (h1 i) (h3 i)) hm, simTst (simNIn true h4 h2)⟩
theorem snput {i' : Expr} (hR : ∀ i, Room k (X i).A) (he : QE K X e f) (ho : QE K X o fo) (hi : QE K X i' h) (hs : ∀ i, swapsWith e (some (.Subscript o i' pos')) pos.line (X i).env = pure false := by exact fun _ => rfl) (hw : ∀ i, (X i).w = w := by exact fun _ => rfl) (hK : ∀ i, (X i).K = K := by exact fun _ => rfl) : QS K X (.Assign [.Subscript o i' pos'] e pos) (sNPutD w f fo h) :=
  let ⟨t, h1, h2⟩ := he.ex; let ⟨u, h3, h4⟩ := ho.ex; let ⟨v, h5, h6⟩ := hi.ex; ⟨sNPut K w u v t, fun i => by have e := hK i; have e2 := hw i; subst e; subst e2; exact ps_nput (hu9 (hR i)) (h3 i) (h5 i) (h1 i) (hs i), simNPut h2 h4 h6⟩
theorem qng2 (hR : ∀ i, Room k (X i).A) (ho : QE K X o f) (he : QE K X a g) (hf : QE K X b h) (m : ∀ i, M2 (X i) o "get" apos a b cpos := by exact fun _ => ⟨rfl, rfl, rfl, rfl⟩) (hw : ∀ i, (X i).w = w := by exact fun _ => rfl) (hK : ∀ i, (X i).K = K := by exact fun _ => rfl) : QE K X (.Call (.Attribute o "get" apos) [a, b] [] cpos) (eNG2 w f g h) :=
  let ⟨t, h1, h2⟩ := ho.ex; let ⟨u, h3, h4⟩ := he.ex; let ⟨v, h5, h6⟩ := hf.ex; ⟨tNGet2 K w t u v, fun i => by have e := hK i; have e2 := hw i; subst e; subst e2; exact pe_nget2 (hu9 (hR i)) (h1 i) (h3 i) (h5 i) (m i), simNG2 h2 h4 h6⟩
end
end L3

set_option Elab.async false
set_option linter.all false
set_option maxRecDepth 100000
namespace L3
open PySem PySem.Spec L2
section
variable {P : Program} {w : World} {K : PySem.W.Frag} {mg : Str → Option Value} {base : Heap} {x gx qual : Str} {st : Stmt} {f : Addr} {N ps : List Str} {k n : Nat} {ms : List Md} {sp : S3} {t3 : T3S} {C : Addr} {m : Str}
theorem mkb3 (F : ∃ f, Df K x qual st f ∧ Mk K C f ∧ mg gx = some (.ref C)) (hb : BindN x qual st ps) (S : FnScope N ps (defScope st)) (hl : ps.length = ms.length + 1) (hN : N.length = ms.length + 1 + n) (hw : ∀ f, QB K (CxR k P w K mg base N qual (defScope st) f) (defBody st) t3)
    (hsp : ∀ ds QR QO, sp ds QR QO → ds.length = ms.length + 1 → t3 (endE (.pab :: ms) ds QR QO) (startE n (.pab :: ms) ds)) : MkB3 P w K mg base (k + 1) gx C ms sp := by
  obtain ⟨f, F, M, hm⟩ := F
  obtain ⟨fd, h1, h2⟩ := fk (ms := .pab :: ms) F hb S hl hN (hw f) hsp
  exact ⟨f, fd, ps, M, h1, hm, h2⟩
theorem sm3 (F : ∃ f, Df K x qual st f ∧ PySem.W.findIn K (.ref C) m = some (some (.ref f)) ∧ PySem.W.fnIn K f = true ∧ PySem.W.isFn K (.ref f) = true ∧ PySem.W.noSeq K C = true) (hb : BindN x qual st ps) (S : FnScope N ps (defScope st)) (hl : ps.length = ms.length) (hN : N.length = ms.length + n) (hw : ∀ f, QB K (CxR k P w K mg base N qual (defScope st) f) (defBody st) t3)
    (hsp : ∀ ds QR QO, sp ds QR QO → ds.length = ms.length → t3 (endE ms ds QR QO) (startE n ms ds)) : Sm3 P w K mg base (k + 1) C m ms sp := by
  obtain ⟨f, F, a1, a2, a3, a4⟩ := F
  obtain ⟨fd, h1, h2⟩ := fk F hb S hl hN (hw f) hsp
  exact ⟨f, fd, ps, a1, a2, a3, a4, h1, h2⟩
theorem dsm_mk {oc kV doc pm cdv ct : Value} {od an : Option Addr} {sl : Array (Option Value)} (a : PySem.W.findIn K (.ref C) m = some (some (.ref f))) (l : K.lookup f = some ⟨oc, od, .func (PySem.W.fnOf x qual (defArgs st) (defBody st) (defScope st) .none kV doc pm an cdv ct), sl⟩) (c : PySem.W.codeIn K cdv qual = true) (k : PySem.W.keepIn K (.ref f) = true)
    (fi : PySem.W.fnIn K f = true) (i : PySem.W.isFn K (.ref f) = true) (q : PySem.W.noSeq K C = true) : ∃ f, Df K x qual st f ∧ PySem.W.findIn K (.ref C) m = some (some (.ref f)) ∧ PySem.W.fnIn K f = true ∧ PySem.W.isFn K (.ref f) = true ∧ PySem.W.noSeq K C = true := ⟨f, df_mk l c k, a, fi, i, q⟩
end
end L3

set_option Elab.async false
set_option linter.all false
set_option maxRecDepth 100000
namespace L3
open PySem PySem.Spec L2
/-! ### a comprehension with two fors, the inner one over a range -/
def SimIX (K : PySem.W.Frag) (wk : Bool) (w2 : TI) (w3 : T3I) : Prop :=
  ∀ (F : Fr) (U : US) (ρ : En) (σ : St) (H : Hp) (Q3 : It3 → En → Prop) (R2 : It → Hp → Prop), F.K = K → Rel F U ρ σ H → w3 ρ Q3 →
    (∀ J it ρ' H', Rel F U ρ' σ H' → Stp ρ σ H ρ' H' → JOk K U H' (fun _ => True) wk J it.items → Q3 it ρ' → R2 J H') → w2 σ H R2
def lcL2 (g : T3G) (tt : T3T) (w1 : T3I) (g1 : T3G) (tt1 : T3T) (te : T3E) (vs vs1 : List Nat) (Q : List D → En → Prop) : List D → List D → En → Prop
  | [], acc, ρ => Q acc ρ
  | x :: xs, acc, ρ => noW ρ vs = true ∧ g x (wipeE ρ vs) fun ρ2 => tt ρ2 fun b ρ3 =>
    if b = true then w1 ρ3 fun it1 ρ4 => lcL g1 tt1 te vs1 (fun acc' ρ5 => lcL2 g tt w1 g1 tt1 te vs vs1 Q xs acc' (restE ρ vs ρ5)) it1.items acc ρ4
    else lcL2 g tt w1 g1 tt1 te vs vs1 Q xs acc (restE ρ vs ρ3)
def oLc2 (w : T3I) (g : T3G) (tt : T3T) (w1 : T3I) (g1 : T3G) (tt1 : T3T) (te : T3E) (vs vs1 : List Nat) : T3O' := fun ρ Q => w ρ fun it ρ1 => lcL2 g tt w1 g1 tt1 te vs vs1 (fun ds ρ2 => okL ρ1 it.r ρ2 ∧ Q (.lst ds) (unlockE ρ1 it.r ρ2)) it.items [] (lockE ρ1 it.r)
section
variable {F : Fr} {U U2 : US} {ρ ρ' ρ2 : En} {σ σ2 : St} {H H' H2 : Hp} {K : PySem.W.Frag}
theorem simLc2 {wk wk1 : Bool} {wi wi1 : TI} {g g1 : TG} {tt tt1 : TT} {te : TE} {vs vs1 ix ix1 : List Nat} {w3 w31 : T3I} {g3 g31 : T3G} {tt3 tt31 : T3T} {te3 : T3E} (hw : SimI K wk wi w3) (hg : SimG K wk g g3 ix) (ht : SimT K tt tt3) (hw1 : SimIX K wk1 wi1 w31) (hg1 : SimG K wk1 g1 g31 ix1) (ht1 : SimT K tt1 tt31) (he : SimE K te te3)
    (hix : ix.all (fun i => vs.contains i) = true) (hix1 : ix1.all (fun i => vs1.contains i) = true) :
    SimEO K (tLc2 wi g tt wi1 g1 tt1 te vs vs1) (oLc2 w3 g3 tt3 w31 g31 tt31 te3 vs vs1) := by
  have hix : ∀ i ∈ ix, i ∈ vs := fun i hi => by simpa using List.all_eq_true.mp hix i hi
  have hix1 : ∀ i ∈ ix1, i ∈ vs1 := fun i hi => by simpa using List.all_eq_true.mp hix1 i hi
  intro F U ρ σ H Q3 Q2 e R q k
  refine hw F U ρ σ H _ _ e R q fun J it ρ1 H1 R1 s1 jok h1 => ?_
  intro D hD
  have Rf := loopIn R1 it.r
  have noU1 : ¬ U D := R1.noU hD
  have Rg : Rel (F.at U (lockE ρ1 it.r) σ H1) (fun b => U b ∨ b = D) (lockE ρ1 it.r) σ (upd H1 D (.lst [])) := Rf.grow hD (ext_new hD) upd_same
  have noL : ¬ Own (lockE ρ1 it.r) σ D := fun z => noU1 (Rf.ownU z)
  let Fl : Fr := F.at U (lockE ρ1 it.r) σ H1
  have eK : Fl.K = K := e
  refine ⟨fun i m H' => m = it.items.length - i ∧ i ≤ it.items.length ∧ ∃ ρ' acc dacc, Rel Fl (fun b => U b ∨ b = D) ρ' σ H' ∧ H' D = some (.lst acc) ∧ RpAll F.K H' (fun b => U b ∨ b = D) dacc acc ∧ (∀ a, Own ρ' σ a → Own (lockE ρ1 it.r) σ a) ∧
    lcL2 g3 tt3 w31 g31 tt31 te3 vs vs1 (fun ds ρ2 => okL ρ1 it.r ρ2 ∧ Q3 (.lst ds) (unlockE ρ1 it.r ρ2)) (it.items.drop i) dacc ρ', ⟨_, rfl, Nat.zero_le _, lockE ρ1 it.r, [], [], Rg, upd_same, by simp only [RpAll], fun _ h => h, h1⟩, ?_⟩
  rintro i m H' ⟨rfl, hi, ρ', acc, dacc, R', hacc, racc, hown, q'⟩
  have jk := jok Fl (fun b => U b ∨ b = D) ρ' σ H' eK R' R'.pres0 (fun a o h n => R'.keep a o h n) i
  obtain ⟨j1, j2⟩ := jk
  have noD : ¬ Own ρ' σ D := fun z => noL (hown D z)
  by_cases hl : i < it.items.length
  · right
    obtain ⟨d, hd⟩ : ∃ d, it.items[i]? = some d := ⟨_, List.getElem?_eq_getElem hl⟩
    have ed : it.items.drop i = d :: it.items.drop (i + 1) := by
      rw [List.drop_eq_getElem_cons hl]
      congr 1
      rw [List.getElem?_eq_getElem hl] at hd
      exact Option.some.inj hd
    rw [ed] at q'
    obtain ⟨no, q'⟩ := q'
    obtain ⟨g1', g2⟩ := j1 d hd
    refine ⟨g1', fun H2 => ∃ ρ' acc dacc, Rel Fl (fun b => U b ∨ b = D) ρ' σ H2 ∧ H2 D = some (.lst acc) ∧ RpAll F.K H2 (fun b => U b ∨ b = D) dacc acc ∧ (∀ a, Own ρ' σ a → Own (lockE ρ1 it.r) σ a) ∧
      lcL2 g3 tt3 w31 g31 tt31 te3 vs vs1 (fun ds ρ2 => okL ρ1 it.r ρ2 ∧ Q3 (.lst ds) (unlockE ρ1 it.r ρ2)) (it.items.drop (i + 1)) dacc ρ', fun H2 z => ⟨it.items.length - (i + 1), by omega, rfl, hl, z⟩, fun x H3 hy => ?_⟩
    obtain ⟨ex, rx⟩ := g2 x H3 hy
    rw [← eK] at rx
    have Rx := R'.ext ex
    have Px : Pres H' (fun b => U b ∨ b = D) H3 (fun b => U b ∨ b = D) := fun a o h n => ⟨ex a o h, n⟩
    refine hg Fl (fun b => U b ∨ b = D) (wipeE ρ' vs) (L2.wipe σ vs) H3 d x _ _ eK (Rx.wipe no) rx q' fun ρ3 σ3 R3 o3 w3 q3 => ?_
    have w3 : L2.wipe σ3 vs = L2.wipe σ vs := (w3 vs hix).trans wipe_idem
    refine ⟨w3, ht Fl _ ρ3 σ3 H3 _ _ eK R3 q3 fun b ρ4 H4 R4 s4 q4 => ?_⟩
    have no3 : ¬ Own ρ3 σ3 D := fun z => noD (Own_wipe (o3 D z))
    have own3 : ∀ a, Own ρ3 σ3 a → Own (lockE ρ1 it.r) σ a := fun a z => hown a (Own_wipe (o3 a z))
    have P4 : Pres H3 (fun b => U b ∨ b = D) H4 (fun b => U b ∨ b = D) := s4.pres R3
    cases b with
    | false =>
      obtain ⟨R6, o6⟩ := Rx.rest R4 P4 w3 no
      exact ⟨_, acc, dacc, R6, s4.keep D _ (ex D _ hacc) no3, RpAll.pres P4 _ _ (RpAll.pres Px _ _ racc), fun a z => own3 a (s4.own a (o6 a z)), q4⟩
    | true =>
      refine hw1 Fl _ ρ4 σ3 H4 _ _ eK R4 q4 fun J1 it1 ρ5 H5 R5 s5 jok1 h5 => ?_
      have s45 := s4.trans s5
      have P5 : Pres H3 (fun b => U b ∨ b = D) H5 (fun b => U b ∨ b = D) := s45.pres R3
      have own5 : ∀ a, Own ρ5 σ3 a → Own (lockE ρ1 it.r) σ a := fun a z => own3 a (s45.own a z)
      have hacc5 : H5 D = some (.lst acc) := s45.keep D _ (ex D _ hacc) no3
      have racc5 := RpAll.pres P5 _ _ (RpAll.pres Px _ _ racc)
      refine ⟨fun j m H' => m = it1.items.length - j ∧ j ≤ it1.items.length ∧ ∃ ρ6 acc dacc, Rel Fl (fun b => U b ∨ b = D) ρ6 σ3 H' ∧ H' D = some (.lst acc) ∧ RpAll F.K H' (fun b => U b ∨ b = D) dacc acc ∧ (∀ a, Own ρ6 σ3 a → Own (lockE ρ1 it.r) σ a) ∧ Pres H5 (fun b => U b ∨ b = D) H' (fun b => U b ∨ b = D) ∧
        lcL g31 tt31 te3 vs1 (fun acc' ρ5 => lcL2 g3 tt3 w31 g31 tt31 te3 vs vs1 (fun ds ρ2 => okL ρ1 it.r ρ2 ∧ Q3 (.lst ds) (unlockE ρ1 it.r ρ2)) (it.items.drop (i + 1)) acc' (restE ρ' vs ρ5)) (it1.items.drop j) dacc ρ6,
        ⟨_, rfl, Nat.zero_le _, ρ5, acc, dacc, R5, hacc5, racc5, own5, fun a o h n => ⟨h, n⟩, h5⟩, ?_⟩
      rintro j m H6 ⟨rfl, hj, ρ6, acc6, dacc6, R6, hacc6, racc6, own6, P6, q6⟩
      obtain ⟨k1, k2⟩ := jok1 Fl (fun b => U b ∨ b = D) ρ6 σ3 H6 eK R6 P6 (fun a o h n => absurd trivial n) j
      have no6 : ¬ Own ρ6 σ3 D := fun z => noL (own6 D z)
      by_cases hl1 : j < it1.items.length
      · right
        obtain ⟨d1, hd1⟩ : ∃ d, it1.items[j]? = some d := ⟨_, List.getElem?_eq_getElem hl1⟩
        have ed1 : it1.items.drop j = d1 :: it1.items.drop (j + 1) := by
          rw [List.drop_eq_getElem_cons hl1]
          congr 1
          rw [List.getElem?_eq_getElem hl1] at hd1
          exact Option.some.inj hd1
        rw [ed1] at q6
        obtain ⟨nn, q6⟩ := q6
        obtain ⟨m1, m2⟩ := k1 d1 hd1
        refine ⟨m1, fun H' => ∃ ρ6 acc dacc, Rel Fl (fun b => U b ∨ b = D) ρ6 σ3 H' ∧ H' D = some (.lst acc) ∧ RpAll F.K H' (fun b => U b ∨ b = D) dacc acc ∧ (∀ a, Own ρ6 σ3 a → Own (lockE ρ1 it.r) σ a) ∧ Pres H5 (fun b => U b ∨ b = D) H' (fun b => U b ∨ b = D) ∧
          lcL g31 tt31 te3 vs1 (fun acc' ρ5 => lcL2 g3 tt3 w31 g31 tt31 te3 vs vs1 (fun ds ρ2 => okL ρ1 it.r ρ2 ∧ Q3 (.lst ds) (unlockE ρ1 it.r ρ2)) (it.items.drop (i + 1)) acc' (restE ρ' vs ρ5)) (it1.items.drop (j + 1)) dacc ρ6,
          fun H2 z => ⟨it1.items.length - (j + 1), by omega, rfl, hl1, z⟩, fun x1 H7 hy1 => ?_⟩
        obtain ⟨ex1, rx1⟩ := m2 x1 H7 hy1
        rw [← eK] at rx1
        have Rx1 := R6.ext ex1
        have Px1 : Pres H6 (fun b => U b ∨ b = D) H7 (fun b => U b ∨ b = D) := fun a o h n => ⟨ex1 a o h, n⟩
        refine hg1 Fl (fun b => U b ∨ b = D) (wipeE ρ6 vs1) (L2.wipe σ3 vs1) H7 d1 x1 _ _ eK (Rx1.wipe nn) rx1 q6 fun ρ7 σ7 R7 o7 w7 q7 => ?_
        have w7 : L2.wipe σ7 vs1 = L2.wipe σ3 vs1 := (w7 vs1 hix1).trans wipe_idem
        refine ⟨w7, ht1 Fl _ ρ7 σ7 H7 _ _ eK R7 q7 fun b ρ8 H8 R8 s8 q8 => ?_⟩
        have no7 : ¬ Own ρ7 σ7 D := fun z => no6 (Own_wipe (o7 D z))
        have own7 : ∀ a, Own ρ7 σ7 a → Own (lockE ρ1 it.r) σ a := fun a z => own6 a (Own_wipe (o7 a z))
        cases b with
        | false =>
          have P8 : Pres H7 (fun b => U b ∨ b = D) H8 (fun b => U b ∨ b = D) := s8.pres R7
          obtain ⟨R9, o9⟩ := Rx1.rest R8 P8 w7 nn
          exact ⟨_, acc6, dacc6, R9, s8.keep D _ (ex1 D _ hacc6) no7, RpAll.pres P8 _ _ (RpAll.pres Px1 _ _ racc6), fun a z => own7 a (s8.own a (o9 a z)), (P6.trans Px1).trans P8, q8⟩
        | true =>
          refine he Fl _ ρ8 σ7 H8 _ _ eK R8 q8 fun r y ρ9 H9 R9 s9 q9 h9 => ?_
          have s89 := s8.trans s9
          have P9 : Pres H7 (fun b => U b ∨ b = D) H9 (fun b => U b ∨ b = D) := s89.pres R7
          obtain ⟨R10, o10⟩ := Rx1.rest R9 P9 w7 nn
          have own10 : ∀ a, Own (restE ρ6 vs1 ρ9) σ3 a → Own (lockE ρ1 it.r) σ a := fun a z => own7 a (s89.own a (o10 a z))
          have no10 : ¬ Own (restE ρ6 vs1 ρ9) σ3 D := fun z => noL (own10 D z)
          have racc9 := RpAll.pres P9 _ _ (RpAll.pres Px1 _ _ racc6)
          cases r with
          | sl _ => exact h9.elim
          | bx _ _ _ => exact h9.elim
          | val d' =>
            have Pw : Pres H9 (fun b => U b ∨ b = D) (upd H9 D (.lst (acc6 ++ [y]))) (fun b => U b ∨ b = D) := fun a o h n => ⟨by rw [upd_ne (fun e => n (.inr e))]; exact h, n⟩
            refine ⟨acc6, s89.keep D _ (ex1 D _ hacc6) no7, by rw [racc9.len]; exact h9.1, restE ρ6 vs1 ρ9, acc6 ++ [y], dacc6 ++ [d'], R10.poke no10 (.inr rfl) hD, upd_same, ?_, own10, ((P6.trans Px1).trans P9).trans Pw, h9.2⟩
            exact RpAll.pres Pw _ _ (racc9.app (.one q9))
      · left
        have e2 : j = it1.items.length := by omega
        subst e2
        rw [List.drop_length] at q6
        refine ⟨k2 (Nat.le_refl _), ?_⟩
        obtain ⟨R11, o11⟩ := Rx.rest R6 (P5.trans P6) w3 no
        exact ⟨restE ρ' vs ρ6, acc6, dacc6, R11, hacc6, racc6, fun a z => own6 a (o11 a z), q6⟩
  · left
    have e2 : i = it.items.length := by omega
    subst e2
    rw [List.drop_length] at q'
    obtain ⟨ok, q'⟩ := q'
    refine ⟨j2 (Nat.le_refl _), ?_⟩
    have Ro := loopOut R1 it.r R' ok
    refine k (.lst dacc) D _ H' Ro (s1.trans ⟨fun a o h n => R'.keep a o h fun z => n (Own_lockE R1 z), fun a z => ?_, fun a o h => R'.ktr a o h⟩) (back_none s1 hD) ⟨acc, hacc, racc⟩ q'
    rcases Own_unlock z with z | z
    · exact Own_lockE R1 (hown a z)
    · exact z
theorem simIR1X {t : TA} {g : T3A} (h : SimA K t g) : SimIX K false (iRng1 t) (iR1 g) := by
  intro F U ρ σ H Q3 R2 e R q k
  refine h F U ρ σ H _ _ e R q fun rs vs ρ1 H1 R1 s1 q1 h1 => ?_
  cases q1 with
  | nil => exact h1.elim
  | cons q1 qs =>
    cases qs with
    | cons _ _ => exact h1.elim
    | nil =>
      obtain ⟨d, e1, h1⟩ := wd_out h1
      cases d <;> first | exact h1.elim | skip
      exact ⟨_, by rw [q1.int R1 e1], h1.1.1, h1.1.2, k _ ⟨_, .val .non⟩ ρ1 H1 R1 s1 jok_r h1.2⟩
end
structure QIX {ι : Type} (K : PySem.W.Frag) (X : ι → Cx) (wk : Bool) (tg iter : Expr) (f : T3I) : Prop where
  ex : ∃ t, (∀ i, PI (X i) tg iter t) ∧ SimIX K wk t f
section
variable {ι : Type} {K : PySem.W.Frag} {X : ι → Cx} {tg tg1 iter iter1 a : Expr} {fa : T3A} {p pos spos : Pos} {ifs ifs1 : List Expr} {ft ft1 : T3T} {y : Str}
theorem irng1x (hm : ∀ i, (X i).mg "range" = none) (ha : QA K X [a] fa) (hg : ∀ i, Gl (X i) "range" := by exact fun _ => rfl) (hs : ∀ i, starEach [a] (X i).env = [(false, eval a (X i).env)] := by exact fun _ => rfl) : QIX K X false tg (.Call (.Name "range" p) [a] [] pos) (iR1 fa) :=
  let ⟨_, a1, a2⟩ := ha.ex; ⟨_, fun i => pi_range1 (hg i) (hm i) (a1 i) (hs i), simIR1X a2⟩
/-- y = [.. for .. in .. for .. in range(..)] -/
theorem slcG2 {wk wk1 : Bool} {elt : Expr} {scope : Scope} {py : Pos} {w w1 : T3I} {g3 g31 : T3G} {te : T3E} {ix ix1 : List Nat} (n : Nat) (own : List (Str × Nat)) (vs1 : List Nat) (hi : QI K X wk tg iter w) (hg : QG K (Blk X scope) wk tg g3 ix) (ht : QTs K (Blk X scope) ifs ft)
    (hi1 : QIX K (Blk X scope) wk1 tg1 iter1 w1) (hg1 : QG K (Blk X scope) wk1 tg1 g31 ix1) (ht1 : QTs K (Blk X scope) ifs1 ft1) (he : QE K (Blk X scope) elt te)
    (ok : ∀ i, BlkOk (X i).N (X i).env.scope scope own) (hN : ∀ i, (X i).N[n]? = some y) (hyl : ∀ i, (X i).env.scope.names.lookup y = some .local)
    (hsw : ∀ i, swapsWith (.ListComp elt [⟨tg, iter, ifs, 0⟩, ⟨tg1, iter1, ifs1, 0⟩] scope pos) (some (.Name y py)) spos.line (X i).env = pure true) (hc : ∀ i, (X i).calm = true) (hnd : ∀ i, (X i).N.Nodup)
    (hix : ix.all (fun i => (own.map (·.2)).contains i) = true) (hix1 : ix1.all (fun i => vs1.contains i) = true) (hv : ∀ i ∈ vs1, i ∈ own.map (·.2)) (hs : ∀ i x, foldedSetIterable iter (X i).env x = pure x) (hs1 : ∀ env x, foldedSetIterable iter1 env x = pure x) :
    ∃ t, (∀ i, PS (X i) (.Assign [.Name y py] (.ListComp elt [⟨tg, iter, ifs, 0⟩, ⟨tg1, iter1, ifs1, 0⟩] scope pos) spos) (tAsg t (gName n))) ∧ SimEO K t (oLc2 w g3 ft w1 g31 ft1 te (own.map (·.2)) vs1) :=
  let ⟨_, a1, a2⟩ := hi.ex; let ⟨_, b1, b2⟩ := hg.ex; let ⟨_, c1, c2⟩ := ht.ex; let ⟨_, d1, d2⟩ := he.ex
  let ⟨_, e1, e2⟩ := hi1.ex; let ⟨_, f1, f2⟩ := hg1.ex; let ⟨_, g1, g2⟩ := ht1.ex
  ⟨_, fun i => ps_setLc2 (hc i) (hnd i) (hN i) (hyl i) (hsw i) (a1 i) (ok i) hv (fun s H C cl fp => b1 (i, s, H, C, cl, fp)) (fun s H C cl fp => c1 (i, s, H, C, cl, fp)) (fun s H C cl fp => e1 (i, s, H, C, cl, fp)) (fun s H C cl fp => f1 (i, s, H, C, cl, fp)) (fun s H C cl fp => g1 (i, s, H, C, cl, fp)) (fun s H C cl fp => d1 (i, s, H, C, cl, fp)) (hs i) hs1, simLc2 a2 b2 c2 e2 f2 g2 d2 hix hix1⟩
theorem slc2 {wk wk1 : Bool} {elt : Expr} {scope : Scope} {py : Pos} {w w1 : T3I} {g3 g31 : T3G} {te : T3E} {ix ix1 : List Nat} (n : Nat) (own : List (Str × Nat)) (vs1 : List Nat) (hi : QI K X wk tg iter w) (hg : QG K (Blk X scope) wk tg g3 ix) (ht : QTs K (Blk X scope) ifs ft)
    (hi1 : QIX K (Blk X scope) wk1 tg1 iter1 w1) (hg1 : QG K (Blk X scope) wk1 tg1 g31 ix1) (ht1 : QTs K (Blk X scope) ifs1 ft1) (he : QE K (Blk X scope) elt te)
    (ok : ∀ i, BlkOk (X i).N (X i).env.scope scope own) (hsw : ∀ i, swapsWith (.ListComp elt [⟨tg, iter, ifs, 0⟩, ⟨tg1, iter1, ifs1, 0⟩] scope pos) (some (.Name y py)) spos.line (X i).env = pure true) (hN : ∀ i, (X i).N[n]? = some y := by exact fun _ => rfl) (hyl : ∀ i, (X i).env.scope.names.lookup y = some .local := by exact fun _ => rfl)
    (hc : ∀ i, (X i).calm = true := by exact fun _ => rfl) (hnd : ∀ i, (X i).N.Nodup := by exact fun _ => by decide)
    (hix : ix.all (fun i => (own.map (·.2)).contains i) = true := by rfl) (hix1 : ix1.all (fun i => vs1.contains i) = true := by rfl) (hv : ∀ i ∈ vs1, i ∈ own.map (·.2) := by decide) (hs : ∀ i x, foldedSetIterable iter (X i).env x = pure x := by exact fun _ _ => rfl) (hs1 : ∀ env x, foldedSetIterable iter1 env x = pure x := by exact fun _ _ => rfl) :
    QS K X (.Assign [.Name y py] (.ListComp elt [⟨tg, iter, ifs, 0⟩, ⟨tg1, iter1, ifs1, 0⟩] scope pos) spos) (sAsg (eShr (oLc2 w g3 ft w1 g31 ft1 te (own.map (·.2)) vs1)) (gN n)) :=
  let ⟨_, h1, h2⟩ := slcG2 n own vs1 hi hg ht hi1 hg1 ht1 he ok hN hyl hsw hc hnd hix hix1 hv hs hs1; ⟨_, h1, simAsg (simShr h2) (simGN n)⟩
end
end L3

set_option Elab.async false
set_option linter.all false
set_option maxRecDepth 100000
set_option autoImplicit false
set_option maxHeartbeats 0
namespace L3
open PySem
/-! ### steps at the level of data -/
section
theorem ifs {c : Prop} [Decidable c] {A B : Prop} (h1 : c → A) (h2 : ¬ c → B) : if c then A else B := by
  by_cases h : c
  · rw [if_pos h]; exact h1 h
  · rw [if_neg h]; exact h2 h
theorem ift {c : Prop} [Decidable c] {A B : Prop} (h : c) (h1 : A) : if c then A else B := by rw [if_pos h]; exact h1
theorem ife {c : Prop} [Decidable c] {A B : Prop} (h : ¬ c) (h1 : B) : if c then A else B := by rw [if_neg h]; exact h1
theorem wo_in {α : Type} {o : Option α} {k : α → Prop} {x : α} (e : o = some x) (h : k x) : wo o k := by rw [e]; exact h
theorem atI_nat {ds : List D} {n : Nat} {d : D} (h : ds[n]? = some d) : L2.atI ds (n : Int) = some d := by
  have hn : n < ds.length := (List.getElem?_eq_some_iff.mp h).1
  unfold L2.atI L2.ixN
  rw [if_pos (by omega), if_pos (by omega)]
  simpa using h
theorem atI_int {ds : List D} {i : Int} {d : D} (h0 : 0 ≤ i) (h : ds[i.toNat]? = some d) : L2.atI ds i = some d := by
  have := atI_nat h
  rwa [Int.toNat_of_nonneg h0] at this
theorem ixN_nat {m n : Nat} (h : n < m) : L2.ixN m (n : Int) = some n := by
  unfold L2.ixN
  rw [if_pos (by omega), if_pos (by omega)]
  simp
theorem ixN_int {m : Nat} {i : Int} (h0 : 0 ≤ i) (h : i < m) : L2.ixN m i = some i.toNat := by
  have := ixN_nat (m := m) (n := i.toNat) (by omega)
  rwa [Int.toNat_of_nonneg h0] at this
theorem pm (j : Int) (h : decide (0 < j) = true) : 0 < j := of_decide_eq_true h
theorem cm {i j : Int} (h : -(2 ^ 64) < j ∧ j < 2 ^ 64) : L2.CMul i j := .inr h
theorem unF {s : Sl} (h : s.locked = false) : (!s.locked) = true := by rw [h]; rfl
/-- a loop by an invariant -/
theorem for_inv {g : T3G} {tb : T3S} {E : E3} (P : Nat → En → Prop) (items : List D) (step : ∀ (i : Nat) (d : D) (ρ : En) (N : En → Prop), items[i]? = some d → P i ρ → (∀ ρ', P (i + 1) ρ' → N ρ') → g d ρ fun ρ1 => tb { E with nx := N, ct := N, bk := E.nx } ρ1)
    (done : ∀ ρ, P items.length ρ → E.nx ρ) {ρ : En} (h0 : P 0 ρ) : forL g tb E items ρ := by
  have go : ∀ (k i : Nat), i + k = items.length → ∀ ρ, P i ρ → forL g tb E (items.drop i) ρ := by
    intro k
    induction k with
    | zero =>
      intro i hi ρ h
      have e : i = items.length := by omega
      subst e
      rw [List.drop_length]
      exact done ρ h
    | succ k ih =>
      intro i hi ρ h
      have hl : i < items.length := by omega
      rw [List.drop_eq_getElem_cons hl]
      exact step i items[i] ρ _ (List.getElem?_eq_getElem hl) h (fun ρ' h' => ih (i + 1) (by omega) ρ' h')
  exact go items.length 0 (by omega) ρ h0
/-- a comprehension by an invariant -/
theorem lc_inv {g : T3G} {tt : T3T} {te : T3E} {vs : List Nat} {Q : List D → En → Prop} (P : Nat → List D → En → Prop) (items : List D)
    (step : ∀ (i : Nat) (d : D) (acc : List D) (ρ : En) (N : List D → En → Prop), items[i]? = some d → P i acc ρ → (∀ acc' ρ', P (i + 1) acc' ρ' → N acc' ρ') → noW ρ vs = true ∧ g d (wipeE ρ vs) fun ρ2 => tt ρ2 fun b ρ3 =>
      if b = true then te ρ3 fun r ρ4 => match r with
        | .val d => acc.length < sizeLine ∧ N (acc ++ [d]) (restE ρ vs ρ4)
        | _ => False
      else N acc (restE ρ vs ρ3))
    (done : ∀ acc ρ, P items.length acc ρ → Q acc ρ) {acc : List D} {ρ : En} (h0 : P 0 acc ρ) : lcL g tt te vs Q items acc ρ := by
  have go : ∀ (k i : Nat), i + k = items.length → ∀ acc ρ, P i acc ρ → lcL g tt te vs Q (items.drop i) acc ρ := by
    intro k
    induction k with
    | zero =>
      intro i hi acc ρ h
      have e : i = items.length := by omega
      subst e
      rw [List.drop_length]
      exact done acc ρ h
    | succ k ih =>
      intro i hi acc ρ h
      have hl : i < items.length := by omega
      rw [List.drop_eq_getElem_cons hl]
      unfold lcL
      exact step i items[i] acc ρ (fun acc ρ => lcL g tt te vs Q (items.drop (i + 1)) acc ρ) (List.getElem?_eq_getElem hl) h (fun acc' ρ' h' => ih (i + 1) (by omega) acc' ρ' h')
  exact go items.length 0 (by omega) acc ρ h0
/-- a comprehension that changes nothing else -/
theorem lc_pure {g : T3G} {tt : T3T} {te : T3E} {vs : List Nat} {Q : List D → En → Prop} (f : D → Option D) (items : List D) {ρ : En} (no : noW ρ vs = true) (hl : items.length < sizeLine)
    (step : ∀ (d : D), d ∈ items → ∀ (acc : List D) (N : List D → En → Prop), acc.length < sizeLine → N (acc ++ (f d).toList) ρ → g d (wipeE ρ vs) fun ρ2 => tt ρ2 fun b ρ3 =>
      if b = true then te ρ3 fun r ρ4 => match r with
        | .val d => acc.length < sizeLine ∧ N (acc ++ [d]) (restE ρ vs ρ4)
        | _ => False
      else N acc (restE ρ vs ρ3)) (done : Q (items.filterMap f) ρ) : lcL g tt te vs Q items [] ρ := by
  refine lc_inv (fun i acc ρ' => ρ' = ρ ∧ acc = (items.take i).filterMap f) items ?_ ?_ ⟨rfl, by simp⟩
  · rintro i d acc _ N hd ⟨rfl, rfl⟩ hN
    refine ⟨no, step d (List.mem_of_getElem? hd) _ N ?_ (hN _ _ ⟨rfl, ?_⟩)⟩
    · have h1 := List.length_filterMap_le f (items.take i)
      have h2 := List.length_take_le' i items
      omega
    · rw [List.take_add_one, hd, List.filterMap_append]
      cases hf : f d <;> simp [hf]
  · rintro acc _ ⟨rfl, rfl⟩
    rw [List.take_length]; exact done
theorem erase_perm {α : Type} : ∀ {l : List α} {i : Nat} (h : i < l.length), (l[i] :: l.eraseIdx i).Perm l
  | [], i, h => by simp at h
  | x :: l, 0, h => by simp
  | x :: l, i + 1, h => by
    simp only [List.getElem_cons_succ, List.eraseIdx_cons_succ]
    exact (List.Perm.swap _ _ _).trans ((erase_perm (by simpa using h)).cons x)
theorem eqi {i j : Int} : (D.eqv (.int i) (.int j) = true) = (i = j) := by simp [D.eqv]
end
namespace K28
open PySem PySem.Spec L2
open PyProof.Rows (b2i)
structure Ad where
  Key : Addr
  COUNTS : Addr
  Known : Addr
  Things : Addr
  w : World
abbrev tbl_COUNTS : List (Str × Int) := [("is", 2), ("get", 2), ("sum", 3), ("same", 3), ("pick", 4)]

/-! ### drawing -/
def isBag (d : D) : Prop := ∃ (ns : List Int) (a b c s : Int), d = .lst [.lst (ns.map D.int), .int a, .int b, .int c, .int s] ∧ 0 ≤ a
def sp__law_mixed (A : Ad) : S3 := fun ds QR _ => ∃ i j, ds = [.int i, .int j] ∧ ∀ r : Int, QR (.int r) ds
def b__law_mixed_t2 (A : Ad) : T3S := (sRet (eOp (oI (fun _ j => 0 < j) fun i j => .int (i % j)) (eCB cInt (aCons (eOp oAdd (eOp oAdd (eOp (oI CDiv fun i j => .int (i / j)) (eVar 3) (eC (.int 11))) (eOp oMul (eVar 3) (eC (.int 16807)))) (eVar 1)) aNil)) (eC (.int 2147483587))))
def b__law_mixed_t1 (A : Ad) : T3S := (sSeq (sAsg (eOp (oI (fun _ j => 0 < j) fun i j => .int (i % j)) (eCB cInt (aCons (eOp oAdd (eOp oAdd (eOp oMul (eVar 2) (eVar 2)) (eOp oMul (eVar 2) (eC (.int 69621)))) (eOp oMul (eOp oAdd (eVar 1) (eC (.int 3))) (eC (.int 40692)))) aNil)) (eC (.int 2147483629))) (gN 3))
 (b__law_mixed_t2 A))
def b__law_mixed (A : Ad) : T3S := (sSeq (sAsg (eOp (oI (fun _ j => 0 < j) fun i j => .int (i % j)) (eCB cInt (aCons (eOp oAdd (eOp oMul (eOp oAdd (eVar 0) (eC (.int 1))) (eC (.int 48271))) (eOp oMul (eOp oAdd (eVar 1) (eC (.int 1))) (eC (.int 1103515245)))) aNil)) (eC (.int 2147483647))) (gN 2))
 (b__law_mixed_t1 A))
theorem t__law_mixed (A : Ad) : ∀ ds QR QO, sp__law_mixed A ds QR QO → ds.length = 2 → b__law_mixed A (endE [.shr, .shr] ds QR QO) (startE 2 [.shr, .shr] ds) := by
  rintro ds QR QO ⟨i, j, rfl, h⟩ _
  refine ⟨cm (by decide), cm (by decide), pm _ rfl, rfl, ?_⟩
  have h1 := Int.emod_nonneg ((i + 1) * 48271 + (j + 1) * 1103515245) (show (2147483647 : Int) ≠ 0 by decide)
  have h2 := Int.emod_lt_of_pos ((i + 1) * 48271 + (j + 1) * 1103515245) (show (0 : Int) < 2147483647 by decide)
  refine ⟨cm ⟨by omega, by omega⟩, cm (by decide), cm (by decide), pm _ rfl, rfl, ?_⟩
  exact ⟨⟨by decide, by decide⟩, cm (by decide), pm _ rfl, h _⟩
def sp__law_pick (A : Ad) : S3 := fun ds QR _ => ∃ (bag : D) (many : Int), ds = [bag, .int many] ∧ isBag bag ∧ (0 < many ∧ many < 1073741824) ∧ ∀ r bag', 0 ≤ r → r < many → isBag bag' → QR (.int r) [bag', .int many]
def b__law_pick_c1t3 (A : Ad) : T3S := (sPut (eCB cAbs (aCons (eVar 3) aNil)) (eVar 0) (eC (.int 2)))
def b__law_pick_c1t2 (A : Ad) : T3S := (sSeq (sIf (fTst (eOp oLt (eCB cAbs (aCons (eVar 3) aNil)) (eOp (oI CPow fun i j => .int (i ^ j.toNat)) (eC (.int 10)) (eC (.int 18)))))
 (sRet (eOp (oI (fun _ j => 0 < j) fun i j => .int (i % j)) (eCB cInt (aCons (eCall [.shr, .shr] (sp__law_mixed A) (aCons (eOp oAdd (eOp oMul (eC (.int 2)) (eCB cAbs (aCons (eVar 3) aNil))) (eOp oLt (eVar 3) (eC (.int 0)))) (aCons (eVar 2) aNil))) aNil)) (eVar 1)))
 sNext)
 (b__law_pick_c1t3 A))
def b__law_pick_c1t1 (A : Ad) : T3S := (sSeq (sPut (eOp oAdd (eOp oIdx (eVar 0) (eC (.int 1))) (eC (.int 1))) (eVar 0) (eC (.int 1)))
 (b__law_pick_c1t2 A))
def b__law_pick_t6 (A : Ad) : T3S := (sRet (eVar 4))
def b__law_pick_t5 (A : Ad) : T3S := (sSeq (sPut (eOp (oI CDiv fun i j => .int (i / j)) (eOp oIdx (eVar 0) (eC (.int 2))) (eVar 1)) (eVar 0) (eC (.int 2)))
 (b__law_pick_t6 A))
def b__law_pick_t4 (A : Ad) : T3S := (sSeq (sAsg (eOp (oI (fun _ j => 0 < j) fun i j => .int (i % j)) (eCB cInt (aCons (eOp oIdx (eVar 0) (eC (.int 2))) aNil)) (eVar 1)) (gN 4))
 (b__law_pick_t5 A))
def b__law_pick_t3 (A : Ad) : T3S := (sSeq (sIf (fTst (eOp (oEq false) (eOp oIdx (eVar 0) (eC (.int 2))) (eC (.int 0))))
 (sRet (eOp (oI (fun _ j => 0 < j) fun i j => .int (i % j)) (eCB cInt (aCons (eCall [.shr, .shr] (sp__law_mixed A) (aCons (eOp oIdx (eVar 0) (eC (.int 4))) (aCons (eVar 2) aNil))) aNil)) (eVar 1)))
 sNext)
 (b__law_pick_t4 A))
def b__law_pick_t2 (A : Ad) : T3S := (sSeq (sIf (fAnd (fTst (eOp (oEq false) (eOp oIdx (eVar 0) (eC (.int 2))) (eC (.int 0)))) (fTst (eOp oLt (eOp oIdx (eVar 0) (eC (.int 1))) (eCB cLen (aCons (eOp oIdx (eVar 0) (eC (.int 0))) aNil)))))
 (sSeq (sAsg (eOp oIdx (eOp oIdx (eVar 0) (eC (.int 0))) (eOp oIdx (eVar 0) (eC (.int 1)))) (gN 3))
 (b__law_pick_c1t1 A))
 sNext)
 (b__law_pick_t3 A))
def b__law_pick_t1 (A : Ad) : T3S := (sSeq (sPut (eOp oAdd (eVar 2) (eC (.int 1))) (eVar 0) (eC (.int 3)))
 (b__law_pick_t2 A))
def b__law_pick (A : Ad) : T3S := (sSeq (sAsg (eOp oIdx (eVar 0) (eC (.int 3))) (gN 2))
 (b__law_pick_t1 A))
theorem t__law_pick (A : Ad) : ∀ ds QR QO, sp__law_pick A ds QR QO → ds.length = 2 → b__law_pick A (endE [.par, .shr] ds QR QO) (startE 3 [.par, .shr] ds) := by
  rintro ds QR QO ⟨bag, many, rfl, ⟨ns, a0, b0, c0, s, rfl, ha⟩, ⟨h1, h2⟩, h⟩ _
  have fin : ∀ x a b c, 0 ≤ a → QR (.int (x % many)) [.lst [.lst (ns.map D.int), .int a, .int b, .int c, .int s], .int many] := fun x a b c ha =>
    h _ _ (Int.emod_nonneg _ (by omega)) (Int.emod_lt_of_pos _ h1) ⟨ns, a, b, c, s, rfl, ha⟩
  have tail : ∀ a b t s3, 0 ≤ a → b__law_pick_t3 A (endE [.par, .shr] [.lst [.lst (ns.map D.int), .int a0, .int b0, .int c0, .int s], .int many] QR QO) [.par (.lst [.lst (ns.map D.int), .int a, .int b, .int (t + 1), .int s]), .shr (.int many), .shr (.int t), s3, .emp] := by
    intro a b t s3 ha
    refine ⟨rfl, rfl, ifs (fun z => ?_) fun z => ?_⟩
    · exact ⟨rfl, _, _, rfl, fun r => ⟨h1, fin _ _ _ _ ha⟩⟩
    · exact ⟨h1, rfl, ⟨h1, h2⟩, fin _ _ _ _ ha⟩
  refine ⟨rfl, rfl, rfl, ifs (fun z => ?_) fun z => tail _ _ _ _ ha⟩
  refine ifs (fun z2 => ?_) fun z2 => tail _ _ _ _ ha
  have z2 : a0 < ((ns.map D.int).length : Int) := of_decide_eq_true z2
  obtain ⟨cell, hc⟩ : ∃ cell, ns[a0.toNat]? = some cell := ⟨_, List.getElem?_eq_getElem (by rw [List.length_map] at z2; omega)⟩
  have hat : L2.atI (ns.map D.int) a0 = some (.int cell) := atI_int ha (by rw [List.getElem?_map, hc]; rfl)
  refine wo_in hat ⟨rfl, ⟨by decide, by decide, by decide⟩, ifs (fun z3 => ?_) fun z3 => tail _ _ _ _ (by omega)⟩
  exact ⟨.inl (by decide), rfl, _, _, rfl, fun r => ⟨h1, fin _ _ _ _ (by omega)⟩⟩
def sp__law_choice (A : Ad) : S3 := fun ds QR _ => ∃ (bag : D) (xs : List D), ds = [bag, .lst xs] ∧ isBag bag ∧ (xs ≠ [] ∧ xs.length < 1073741824) ∧ ∀ x bag', x ∈ xs → isBag bag' → QR x [bag', .lst xs]
def b__law_choice (A : Ad) : T3S := (sRet (eOp oIdx (eVar 1) (eCall [.par, .shr] (sp__law_pick A) (aCons (eVar 0) (aCons (eCB cLen (aCons (eVar 1) aNil)) aNil)))))
theorem t__law_choice (A : Ad) : ∀ ds QR QO, sp__law_choice A ds QR QO → ds.length = 2 → b__law_choice A (endE [.par, .brw] ds QR QO) (startE 0 [.par, .brw] ds) := by
  rintro ds QR QO ⟨bag, xs, rfl, hb, ⟨h1, h2⟩, h⟩ _
  have hl : 0 < xs.length := List.length_pos_iff.mpr h1
  refine ⟨rfl, _, _, rfl, hb, ⟨by omega, by omega⟩, fun r bag' r0 r1 hb' => ?_⟩
  have hx : xs[r.toNat]? = some xs[r.toNat] := List.getElem?_eq_getElem (by omega)
  exact wo_in (atI_int r0 hx) (h _ _ (List.getElem_mem _) hb')
end K28
end L3

set_option Elab.async false
set_option linter.all false
set_option maxRecDepth 100000
set_option autoImplicit false
set_option maxHeartbeats 0
namespace L3
namespace K28
open PySem PySem.Spec L2
open PyProof.Rows (b2i)

theorem sz (n : Nat) (h : Nat.ble n 100 = true) : n ≤ sizeLine := Nat.le_trans (Nat.le_of_ble_eq_true h) (by decide)
/-! ### forms -/
inductive Fm where
  | is (n : Int) | it | pl | sum (a b : Fm) | same (a b : Fm) | pick (a b c : Fm)
def Fm.d : Fm → D
  | .is n => .tup [.str "is", .int n]
  | .it => .tup [.str "get", .str "item"]
  | .pl => .tup [.str "get", .str "at"]
  | .sum a b => .tup [.str "sum", a.d, b.d]
  | .same a b => .tup [.str "same", a.d, b.d]
  | .pick a b c => .tup [.str "pick", a.d, b.d, c.d]
def Fm.val (i p : Int) : Fm → Int
  | .is n => n
  | .it => i
  | .pl => p
  | .sum a b => (a.val i p + b.val i p) % 10
  | .same a b => if a.val i p = b.val i p then 1 else 0
  | .pick a b c => if a.val i p ≠ 0 then b.val i p else c.val i p
def Fm.dep : Fm → Nat
  | .sum a b => max a.dep b.dep + 1
  | .same a b => max a.dep b.dep + 1
  | .pick a b c => max a.dep (max b.dep c.dep) + 1
  | _ => 1
def Fm.good : Fm → Prop
  | .is n => 0 ≤ n ∧ n ≤ 9
  | .sum a b => a.good ∧ b.good
  | .same a b => a.good ∧ b.good
  | .pick a b c => a.good ∧ b.good ∧ c.good
  | _ => True
theorem Fm.dep_pos (f : Fm) : 0 < f.dep := by cases f <;> simp [Fm.dep]
theorem dp5 {n : Nat} (h : Nat.ble n 5 = true) : n ≤ 5 := Nat.le_of_ble_eq_true h
def wts (i p : Int) : D := .dic [(.inr "item", .int i), (.inr "at", .int p)]
theorem sIs : (D.str "is").shp = true := by decide +kernel
theorem sGet : (D.str "get").shp = true := by decide +kernel
theorem sSum : (D.str "sum").shp = true := by decide +kernel
theorem sSame : (D.str "same").shp = true := by decide +kernel
theorem sPick : (D.str "pick").shp = true := by decide +kernel
theorem sItem : (D.str "item").shp = true := by decide +kernel
theorem sAt : (D.str "at").shp = true := by decide +kernel
theorem eIs : D.eqv (.str "is") (.str "is") = true := by decide
theorem eGet : D.eqv (.str "get") (.str "get") = true := by decide
theorem eSum : D.eqv (.str "sum") (.str "sum") = true := by decide
theorem eSame : D.eqv (.str "same") (.str "same") = true := by decide
theorem ePick : D.eqv (.str "pick") (.str "pick") = true := by decide
theorem eItem : D.eqv (.str "item") (.str "item") = true := by decide
theorem eAt : D.eqv (.str "at") (.str "at") = true := by decide
theorem nGI : ¬ D.eqv (.str "get") (.str "is") = true := by decide
theorem nSI : ¬ D.eqv (.str "sum") (.str "is") = true := by decide
theorem nSG : ¬ D.eqv (.str "sum") (.str "get") = true := by decide
theorem nSP : ¬ D.eqv (.str "sum") (.str "pick") = true := by decide
theorem nMI : ¬ D.eqv (.str "same") (.str "is") = true := by decide
theorem nMG : ¬ D.eqv (.str "same") (.str "get") = true := by decide
theorem nMP : ¬ D.eqv (.str "same") (.str "pick") = true := by decide
theorem nMS : ¬ D.eqv (.str "same") (.str "sum") = true := by decide
theorem nPI : ¬ D.eqv (.str "pick") (.str "is") = true := by decide
theorem nPG : ¬ D.eqv (.str "pick") (.str "get") = true := by decide
theorem nPS : ¬ D.eqv (.str "pick") (.str "sum") = true := by decide
theorem nAI : ¬ D.eqv (.str "at") (.str "item") = true := by decide
theorem nIA : ¬ D.eqv (.str "item") (.str "at") = true := by decide
theorem nIG : ¬ D.eqv (.str "is") (.str "get") = true := by decide
theorem e2i (i p : Int) : getD' [((.inr "item" : Key), D.int i), (.inr "at", .int p)] (.inr "item") = some (.int i) := rfl
theorem e1 : D.eqv (.str "is") (.str "get") = false := by decide
theorem e2 (i p : Int) : getD' [((.inr "item" : Key), D.int i), (.inr "at", .int p)] (.inr "at") = some (.int p) := rfl
theorem e3 (i p : D) : mergeD [] [((.inr "item" : Key), i), (.inr "at", p)] = [(.inr "item", i), (.inr "at", p)] := rfl
def sp__law_value' (n : Nat) : S3 := fun ds QR _ => ∃ (f : Fm) (i p : Int), ds = [f.d, wts i p] ∧ f.dep ≤ n ∧ QR (.int (f.val i p)) ds
def sp__law_value (A : Ad) : S3 := sp__law_value' 7
def b__law_value_t5 (A : Ad) (me : S3) : T3S := (sRet (eIf (fTst (eOp (oEq false) (eVar 2) (eC (.str "sum")))) (eOp (oI (fun _ j => 0 < j) fun i j => .int (i % j)) (eCB cInt (aCons (eOp oAdd (eVar 3) (eVar 4)) aNil)) (eC (.int 10))) (eCB cInt (aCons (eOp (oEq false) (eVar 3) (eVar 4)) aNil))))
def b__law_value_t4 (A : Ad) (me : S3) : T3S := (sSeq (sAsg (eCall [.shr, .brw] me (aCons (eOp oIdx (eVar 0) (eC (.int 2))) (aCons (eVar 1) aNil))) (gN 4))
 (b__law_value_t5 A me))
def b__law_value_t3 (A : Ad) (me : S3) : T3S := (sSeq (sIf (fTst (eOp (oEq false) (eVar 2) (eC (.str "pick"))))
 (sRet (eCall [.shr, .brw] me (aCons (eIf (fTst (eOp (oEq true) (eVar 3) (eC (.int 0)))) (eOp oIdx (eVar 0) (eC (.int 2))) (eOp oIdx (eVar 0) (eC (.int 3)))) (aCons (eVar 1) aNil))))
 sNext)
 (b__law_value_t4 A me))
def b__law_value_t2 (A : Ad) (me : S3) : T3S := (sSeq (sAsg (eCall [.shr, .brw] me (aCons (eOp oIdx (eVar 0) (eC (.int 1))) (aCons (eVar 1) aNil))) (gN 3))
 (b__law_value_t3 A me))
def b__law_value_t1 (A : Ad) (me : S3) : T3S := (sSeq (sIf (fOr (fTst (eOp (oEq false) (eVar 2) (eC (.str "is")))) (fTst (eOp (oEq false) (eVar 2) (eC (.str "get")))))
 (sRet (eIf (fTst (eOp (oEq false) (eVar 2) (eC (.str "is")))) (eOp oIdx (eVar 0) (eC (.int 1))) (eDGet (eVar 1) (eOp oIdx (eVar 0) (eC (.int 1))))))
 sNext)
 (b__law_value_t2 A me))
def b__law_value (A : Ad) (me : S3) : T3S := (sSeq (sAsg (eOp oIdx (eVar 0) (eC (.int 0))) (gN 2))
 (b__law_value_t1 A me))
theorem t__law_value (A : Ad) (n : Nat) : ∀ ds QR QO, sp__law_value' (n + 1) ds QR QO → ds.length = 2 → b__law_value A (sp__law_value' n) (endE [.shr, .brw] ds QR QO) (startE 3 [.shr, .brw] ds) := by
  rintro ds QR QO ⟨f, i, p, rfl, hd, h⟩ _
  have hl : [f.d, wts i p].length = 2 := rfl
  cases f with
  | is m => exact ⟨rfl, sIs, sIs, sIs, sIs, h⟩
  | it => exact ⟨rfl, sGet, sIs, sGet, sGet, sGet, sIs, h⟩
  | pl => exact ⟨rfl, sGet, sIs, sGet, sGet, sGet, sIs, h⟩
  | sum a b =>
    have hd : max a.dep b.dep + 1 ≤ n + 1 := hd
    refine ⟨rfl, sSum, sIs, ⟨sSum, sGet, ⟨rfl, a, i, p, rfl, by omega, rfl, sSum, sPick, ⟨rfl, b, i, p, rfl, by omega, rfl, sSum, sSum, ⟨pm _ rfl, h⟩⟩⟩⟩⟩
  | same a b =>
    have hd : max a.dep b.dep + 1 ≤ n + 1 := hd
    refine ⟨rfl, sSame, sIs, ⟨sSame, sGet, ⟨rfl, a, i, p, rfl, by omega, rfl, sSame, sPick, ⟨rfl, b, i, p, rfl, by omega, rfl, sSame, sSum, ?_⟩⟩⟩⟩
    refine ⟨rfl, rfl, ?_⟩
    have e : Fm.val i p (.same a b) = if D.eqv (.int (a.val i p)) (.int (b.val i p)) = true then 1 else 0 := by simp only [eqi]; rfl
    rw [e] at h
    exact h
  | pick a b c =>
    have hd : max a.dep (max b.dep c.dep) + 1 ≤ n + 1 := hd
    refine ⟨rfl, sPick, sIs, ⟨sPick, sGet, ⟨rfl, a, i, p, rfl, by omega, rfl, sPick, sPick, ⟨rfl, rfl, ?_⟩⟩⟩⟩
    have e : Fm.val i p (.pick a b c) = if a.val i p ≠ 0 then b.val i p else c.val i p := rfl
    rw [e] at h
    refine ifs (fun z => ?_) fun z => ?_
    · have z : ¬ a.val i p = 0 := by simpa [D.eqv] using z
      rw [if_pos z] at h
      exact ⟨rfl, b, i, p, rfl, by omega, h⟩
    · have z : a.val i p = 0 := by simpa [D.eqv] using z
      rw [if_neg (by simpa using z)] at h
      exact ⟨rfl, c, i, p, rfl, by omega, h⟩

def sp__law_number (A : Ad) : S3 := fun ds QR _ => ∃ i : Int, ds = [.int i] ∧ QR (.bl true) ds
def b__law_number (A : Ad) : T3S := (sRet (eAnd (eCB cIsi (aCons (eVar 0) (aCons (eC (.ty "int")) aNil))) (eNot (eCB cIsi (aCons (eVar 0) (aCons (eC (.ty "bool")) aNil))))))
theorem t__law_number (A : Ad) : ∀ ds QR QO, sp__law_number A ds QR QO → ds.length = 1 → b__law_number A (endE [.shr] ds QR QO) (startE 0 [.shr] ds) := by
  rintro ds QR QO ⟨i, rfl, h⟩ _
  exact ⟨rfl, rfl, h⟩
/-! ### a drawn form -/
def rdb : D := .lst [.str "item", .str "at"]
def sp__law_form' (n : Nat) : S3 := fun ds QR _ => ∃ (bag : D) (lv : Int), ds = [bag, rdb, .int lv] ∧ isBag bag ∧ (0 < n ∧ lv ≤ n) ∧ ∀ (f : Fm) bag', f.good → (f.dep : Int) ≤ max lv 1 → isBag bag' → QR f.d [bag', rdb, .int lv]
def sp__law_form (A : Ad) : S3 := sp__law_form' 7
def b__law_form_c1t1 (A : Ad) (me : S3) : T3S := (sRet (eTup (aCons (eC (.str "get")) (aCons (eCall [.par, .brw] (sp__law_choice A) (aCons (eVar 0) (aCons (eVar 1) aNil))) aNil))))
def b__law_form_t5 (A : Ad) (me : S3) : T3S := (sRet (eTup (aCons (eC (.str "pick")) (aCons (eVar 4) (aCons (eVar 5) (aCons (eCall [.par, .shr, .shr] me (aCons (eVar 0) (aCons (eVar 1) (aCons (eOp (oI0 fun i j => .int (i - j)) (eVar 2) (eC (.int 1))) aNil)))) aNil))))))
def b__law_form_t4 (A : Ad) (me : S3) : T3S := (sSeq (sIf (fTst (eOp oLt (eVar 3) (eC (.int 6))))
 (sRet (eTup (aCons (eOp oIdx (eLst (aCons (eC (.str "sum")) (aCons (eC (.str "sum")) (aCons (eC (.str "same")) aNil)))) (eOp (oI0 fun i j => .int (i - j)) (eVar 3) (eC (.int 3)))) (aCons (eVar 4) (aCons (eVar 5) aNil)))))
 sNext)
 (b__law_form_t5 A me))
def b__law_form_t3 (A : Ad) (me : S3) : T3S := (sSeq (sAsg (eCall [.par, .shr, .shr] me (aCons (eVar 0) (aCons (eVar 1) (aCons (eOp (oI0 fun i j => .int (i - j)) (eVar 2) (eC (.int 1))) aNil)))) (gN 5))
 (b__law_form_t4 A me))
def b__law_form_t2 (A : Ad) (me : S3) : T3S := (sSeq (sAsg (eCall [.par, .shr, .shr] me (aCons (eVar 0) (aCons (eVar 1) (aCons (eOp (oI0 fun i j => .int (i - j)) (eVar 2) (eC (.int 1))) aNil)))) (gN 4))
 (b__law_form_t3 A me))
def b__law_form_t1 (A : Ad) (me : S3) : T3S := (sSeq (sIf (fOr (fTst (eOp oLe (eVar 2) (eC (.int 1)))) (fTst (eOp oLt (eVar 3) (eC (.int 3)))))
 (sSeq (sIf (fOr (fNot (fTru (eVar 1))) (fAnd (fTst (eOp (oEq false) (eVar 3) (eC (.int 0)))) (fTst (eOp (oEq false) (eCall [.par, .shr] (sp__law_pick A) (aCons (eVar 0) (aCons (eC (.int 2)) aNil))) (eC (.int 0))))))
 (sRet (eTup (aCons (eC (.str "is")) (aCons (eCall [.par, .shr] (sp__law_pick A) (aCons (eVar 0) (aCons (eC (.int 10)) aNil))) aNil))))
 sNext)
 (b__law_form_c1t1 A me))
 sNext)
 (b__law_form_t2 A me))
def b__law_form (A : Ad) (me : S3) : T3S := (sSeq (sAsg (eCall [.par, .shr] (sp__law_pick A) (aCons (eVar 0) (aCons (eC (.int 8)) aNil))) (gN 3))
 (b__law_form_t1 A me))
theorem t__law_form (A : Ad) (n : Nat) : ∀ ds QR QO, sp__law_form' (n + 1) ds QR QO → ds.length = 3 → b__law_form A (sp__law_form' n) (endE [.par, .shr, .shr] ds QR QO) (startE 3 [.par, .shr, .shr] ds) := by
  rintro ds QR QO ⟨bag, lv, rfl, hb, ⟨h0, h1⟩, h⟩ _
  refine ⟨rfl, _, _, rfl, hb, ⟨by decide, by decide⟩, fun way bag1 w0 w1 hb1 => ⟨rfl, ?_⟩⟩
  show b__law_form_t1 A (sp__law_form' n) _ [.par bag1, .shr rdb, .shr (.int lv), .shr (.int way), .emp, .emp]
  have leaf : ∀ (way : Int) bag1, isBag bag1 → (sIf (fOr (fNot (fTru (eVar 1))) (fAnd (fTst (eOp (oEq false) (eVar 3) (eC (.int 0)))) (fTst (eOp (oEq false) (eCall [.par, .shr] (sp__law_pick A) (aCons (eVar 0) (aCons (eC (.int 2)) aNil))) (eC (.int 0))))))
      (sRet (eTup (aCons (eC (.str "is")) (aCons (eCall [.par, .shr] (sp__law_pick A) (aCons (eVar 0) (aCons (eC (.int 10)) aNil))) aNil))))
      sNext) { endE [.par, .shr, .shr] [bag, rdb, .int lv] QR QO with nx := (sRet (eTup (aCons (eC (.str "get")) (aCons (eCall [.par, .brw] (sp__law_choice A) (aCons (eVar 0) (aCons (eVar 1) aNil))) aNil)))) (endE [.par, .shr, .shr] [bag, rdb, .int lv] QR QO) } [.par bag1, .shr rdb, .shr (.int lv), .shr (.int way), .emp, .emp] := by
    intro way bag1 hb1
    have get : ∀ bag1, isBag bag1 → (sRet (eTup (aCons (eC (.str "get")) (aCons (eCall [.par, .brw] (sp__law_choice A) (aCons (eVar 0) (aCons (eVar 1) aNil))) aNil)))) (endE [.par, .shr, .shr] [bag, rdb, .int lv] QR QO) [.par bag1, .shr rdb, .shr (.int lv), .shr (.int way), .emp, .emp] := by
      intro bag1 hb1
      refine ⟨rfl, bag1, _, rfl, hb1, ⟨by simp, by simp⟩, fun x bag' hx hb' => ⟨sz _ rfl, ?_⟩⟩
      rcases List.mem_cons.mp hx with rfl | hx
      · exact h .it _ trivial (by show (1 : Int) ≤ _; omega) hb'
      · rcases List.mem_cons.mp hx with rfl | hx
        · exact h .pl _ trivial (by show (1 : Int) ≤ _; omega) hb'
        · cases hx
    refine ⟨rfl, rfl, ifs (fun z => ?_) fun z => get _ hb1⟩
    refine ⟨rfl, bag1, _, rfl, hb1, ⟨by decide, by decide⟩, fun r bag2 r0 r1 hb2 => ⟨rfl, rfl, ifs (fun z2 => ?_) fun z2 => get _ hb2⟩⟩
    refine ⟨rfl, bag2, _, rfl, hb2, ⟨by decide, by decide⟩, fun v bag3 v0 v1 hb3 => ⟨sz _ rfl, ?_⟩⟩
    exact h (.is v) _ ⟨v0, by omega⟩ (by show (1 : Int) ≤ _; omega) hb3
  refine ifs (fun z => leaf _ _ hb1) fun z => ifs (fun z2 => leaf _ _ hb1) fun z2 => ?_
  have hlv : 1 < lv := by have : ¬ lv ≤ 1 := by simpa using z
                          omega
  have hway : 3 ≤ way := by have : ¬ way < 3 := by simpa using z2
                            omega
  refine ⟨rfl, bag1, lv - 1, rfl, hb1, ⟨by omega, by omega⟩, fun f bag2 gf df hb2 => ⟨rfl, ?_⟩⟩
  show b__law_form_t3 A (sp__law_form' n) _ [.par bag2, .shr rdb, .shr (.int lv), .shr (.int way), .shr f.d, .emp]
  refine ⟨rfl, bag2, lv - 1, rfl, hb2, ⟨by omega, by omega⟩, fun g bag3 gg dg hb3 => ⟨rfl, ?_⟩⟩
  show b__law_form_t4 A (sp__law_form' n) _ [.par bag3, .shr rdb, .shr (.int lv), .shr (.int way), .shr f.d, .shr g.d]
  refine ifs (fun z3 => ?_) fun z3 => ?_
  · have z3 : way < 6 := by simpa using z3
    refine ⟨sz _ rfl, ?_⟩
    have c : way = 3 ∨ way = 4 ∨ way = 5 := by omega
    rcases c with c | c | c
    · subst c
      exact ⟨sz _ rfl, h (.sum f g) _ ⟨gf, gg⟩ (by show ((max f.dep g.dep + 1 : Nat) : Int) ≤ _; omega) hb3⟩
    · subst c
      exact ⟨sz _ rfl, h (.sum f g) _ ⟨gf, gg⟩ (by show ((max f.dep g.dep + 1 : Nat) : Int) ≤ _; omega) hb3⟩
    · subst c
      exact ⟨sz _ rfl, h (.same f g) _ ⟨gf, gg⟩ (by show ((max f.dep g.dep + 1 : Nat) : Int) ≤ _; omega) hb3⟩
  · refine ⟨rfl, bag3, lv - 1, rfl, hb3, ⟨by omega, by omega⟩, fun k bag4 gk dk hb4 => ⟨sz _ rfl, ?_⟩⟩
    exact h (.pick f g k) _ ⟨gf, gg, gk⟩ (by show ((max f.dep (max g.dep k.dep) + 1 : Nat) : Int) ≤ _; omega) hb4
def sp__law_any_key (A : Ad) : S3 := fun ds QR _ => ∃ bag, ds = [bag] ∧ isBag bag ∧ ∀ (f : Fm) bag', f.good → f.dep ≤ 5 → isBag bag' → QR f.d [bag']
def b__law_any_key_t13 (A : Ad) : T3S := (sRet (eCall [.par, .shr, .shr] (sp__law_form A) (aCons (eVar 0) (aCons (eLst (aCons (eC (.str "item")) (aCons (eC (.str "at")) aNil))) (aCons (eOp oAdd (eC (.int 2)) (eCall [.par, .shr] (sp__law_pick A) (aCons (eVar 0) (aCons (eC (.int 4)) aNil)))) aNil)))))
def b__law_any_key_t12 (A : Ad) : T3S := (sSeq (sIf (fTst (eOp (oEq false) (eVar 1) (eC (.int 8))))
 (sRet (eTup (aCons (eC (.str "pick")) (aCons (eTup (aCons (eC (.str "same")) (aCons (eTup (aCons (eC (.str "get")) (aCons (eC (.str "at")) aNil))) (aCons (eTup (aCons (eC (.str "is")) (aCons (eVar 3) aNil))) aNil)))) (aCons (eTup (aCons (eC (.str "is")) (aCons (eVar 2) aNil))) (aCons (eVar 4) aNil))))))
 sNext)
 (b__law_any_key_t13 A))
def b__law_any_key_t11 (A : Ad) : T3S := (sSeq (sIf (fTst (eOp (oEq false) (eVar 1) (eC (.int 7))))
 (sRet (eTup (aCons (eC (.str "sum")) (aCons (eVar 4) (aCons (eTup (aCons (eC (.str "get")) (aCons (eC (.str "at")) aNil))) aNil)))))
 sNext)
 (b__law_any_key_t12 A))
def b__law_any_key_t10 (A : Ad) : T3S := (sSeq (sIf (fTst (eOp (oEq false) (eVar 1) (eC (.int 6))))
 (sRet (eTup (aCons (eC (.str "pick")) (aCons (eTup (aCons (eC (.str "same")) (aCons (eVar 4) (aCons (eTup (aCons (eC (.str "is")) (aCons (eVar 2) aNil))) aNil)))) (aCons (eTup (aCons (eC (.str "is")) (aCons (eCall [.par, .shr] (sp__law_pick A) (aCons (eVar 0) (aCons (eC (.int 10)) aNil))) aNil))) (aCons (eVar 4) aNil))))))
 sNext)
 (b__law_any_key_t11 A))
def b__law_any_key_t9 (A : Ad) : T3S := (sSeq (sIf (fTst (eOp (oEq false) (eVar 1) (eC (.int 5))))
 (sRet (eTup (aCons (eC (.str "same")) (aCons (eVar 4) (aCons (eTup (aCons (eC (.str "is")) (aCons (eVar 2) aNil))) aNil)))))
 sNext)
 (b__law_any_key_t10 A))
def b__law_any_key_t8 (A : Ad) : T3S := (sSeq (sIf (fTst (eOp (oEq false) (eVar 1) (eC (.int 4))))
 (sRet (eTup (aCons (eC (.str "sum")) (aCons (eVar 4) (aCons (eVar 4) aNil)))))
 sNext)
 (b__law_any_key_t9 A))
def b__law_any_key_t7 (A : Ad) : T3S := (sSeq (sIf (fTst (eOp (oEq false) (eVar 1) (eC (.int 3))))
 (sRet (eTup (aCons (eC (.str "sum")) (aCons (eVar 4) (aCons (eTup (aCons (eC (.str "is")) (aCons (eVar 2) aNil))) aNil)))))
 sNext)
 (b__law_any_key_t8 A))
def b__law_any_key_t6 (A : Ad) : T3S := (sSeq (sIf (fTst (eOp (oEq false) (eVar 1) (eC (.int 2))))
 (sRet (eTup (aCons (eC (.str "is")) (aCons (eVar 2) aNil))))
 sNext)
 (b__law_any_key_t7 A))
def b__law_any_key_t5 (A : Ad) : T3S := (sSeq (sIf (fTst (eOp (oEq false) (eVar 1) (eC (.int 1))))
 (sRet (eTup (aCons (eC (.str "get")) (aCons (eC (.str "at")) aNil))))
 sNext)
 (b__law_any_key_t6 A))
def b__law_any_key_t4 (A : Ad) : T3S := (sSeq (sIf (fTst (eOp (oEq false) (eVar 1) (eC (.int 0))))
 (sRet (eVar 4))
 sNext)
 (b__law_any_key_t5 A))
def b__law_any_key_t3 (A : Ad) : T3S := (sSeq (sAsg (eTup (aCons (eC (.str "get")) (aCons (eC (.str "item")) aNil))) (gN 4))
 (b__law_any_key_t4 A))
def b__law_any_key_t2 (A : Ad) : T3S := (sSeq (sAsg (eCall [.par, .brw] (sp__law_choice A) (aCons (eVar 0) (aCons (eLst (aCons (eC (.int 4)) (aCons (eC (.int 4)) (aCons (eC (.int 0)) (aCons (eC (.int 1)) (aCons (eC (.int 2)) (aCons (eC (.int 3)) aNil))))))) aNil))) (gN 3))
 (b__law_any_key_t3 A))
def b__law_any_key_t1 (A : Ad) : T3S := (sSeq (sAsg (eCall [.par, .brw] (sp__law_choice A) (aCons (eVar 0) (aCons (eLst (aCons (eC (.int 9)) (aCons (eC (.int 9)) (aCons (eC (.int 0)) (aCons (eC (.int 1)) (aCons (eC (.int 2)) (aCons (eC (.int 3)) (aCons (eC (.int 4)) (aCons (eC (.int 5)) (aCons (eC (.int 6)) (aCons (eC (.int 7)) (aCons (eC (.int 8)) aNil)))))))))))) aNil))) (gN 2))
 (b__law_any_key_t2 A))
def b__law_any_key (A : Ad) : T3S := (sSeq (sAsg (eCall [.par, .shr] (sp__law_pick A) (aCons (eVar 0) (aCons (eC (.int 12)) aNil))) (gN 1))
 (b__law_any_key_t1 A))
theorem t__law_any_key (A : Ad) : ∀ ds QR QO, sp__law_any_key A ds QR QO → ds.length = 1 → b__law_any_key A (endE [.par] ds QR QO) (startE 4 [.par] ds) := by
  rintro ds QR QO ⟨bag, rfl, hb, h⟩ _
  refine ⟨rfl, _, _, rfl, hb, ⟨by decide, by decide⟩, fun way bag1 w0 w1 hb1 => ⟨rfl, ?_⟩⟩
  show b__law_any_key_t1 A _ [.par bag1, .shr (.int way), .emp, .emp, .emp]
  refine ⟨sz _ rfl, rfl, _, _, rfl, hb1, ⟨by simp, by simp⟩, fun wd bag2 m2 hb2 => ⟨rfl, ?_⟩⟩
  show b__law_any_key_t2 A _ [.par bag2, .shr (.int way), .shr wd, .emp, .emp]
  obtain ⟨wv, rfl, wv0, wv1⟩ : ∃ w : Int, wd = .int w ∧ 0 ≤ w ∧ w ≤ 9 := by
    simp only [List.mem_cons, List.not_mem_nil, or_false] at m2
    rcases m2 with rfl | rfl | rfl | rfl | rfl | rfl | rfl | rfl | rfl | rfl | rfl <;> exact ⟨_, rfl, by decide, by decide⟩
  refine ⟨sz _ rfl, rfl, _, _, rfl, hb2, ⟨by simp, by simp⟩, fun sd bag3 m3 hb3 => ⟨rfl, ?_⟩⟩
  show b__law_any_key_t3 A _ [.par bag3, .shr (.int way), .shr (.int wv), .shr sd, .emp]
  obtain ⟨sv, rfl, sv0, sv1⟩ : ∃ w : Int, sd = .int w ∧ 0 ≤ w ∧ w ≤ 9 := by
    simp only [List.mem_cons, List.not_mem_nil, or_false] at m3
    rcases m3 with rfl | rfl | rfl | rfl | rfl | rfl <;> exact ⟨_, rfl, by decide, by decide⟩
  refine ⟨sz _ rfl, rfl, ?_⟩
  show b__law_any_key_t4 A _ [.par bag3, .shr (.int way), .shr (.int wv), .shr (.int sv), .shr Fm.it.d]
  refine ⟨rfl, rfl, ifs (fun z => h .it _ trivial (dp5 rfl) hb3) fun z => ?_⟩
  refine ⟨rfl, rfl, ifs (fun z => ⟨sz _ rfl, h .pl _ trivial (dp5 rfl) hb3⟩) fun z => ?_⟩
  refine ⟨rfl, rfl, ifs (fun z => ⟨sz _ rfl, h (.is wv) _ ⟨wv0, wv1⟩ (dp5 rfl) hb3⟩) fun z => ?_⟩
  refine ⟨rfl, rfl, ifs (fun z => ⟨sz _ rfl, sz _ rfl, h (.sum .it (.is wv)) _ ⟨trivial, wv0, wv1⟩ (dp5 rfl) hb3⟩) fun z => ?_⟩
  refine ⟨rfl, rfl, ifs (fun z => ⟨sz _ rfl, h (.sum .it .it) _ ⟨trivial, trivial⟩ (dp5 rfl) hb3⟩) fun z => ?_⟩
  refine ⟨rfl, rfl, ifs (fun z => ⟨sz _ rfl, sz _ rfl, h (.same .it (.is wv)) _ ⟨trivial, wv0, wv1⟩ (dp5 rfl) hb3⟩) fun z => ?_⟩
  refine ⟨rfl, rfl, ifs (fun z => ?_) fun z => ?_⟩
  · refine ⟨sz _ rfl, sz _ rfl, rfl, _, _, rfl, hb3, ⟨by decide, by decide⟩, fun v bag4 v0 v1 hb4 => ⟨sz _ rfl, sz _ rfl, ?_⟩⟩
    exact h (.pick (.same .it (.is wv)) (.is v) .it) _ ⟨⟨trivial, wv0, wv1⟩, ⟨v0, by omega⟩, trivial⟩ (dp5 rfl) hb4
  refine ⟨rfl, rfl, ifs (fun z => ⟨sz _ rfl, sz _ rfl, h (.sum .it .pl) _ ⟨trivial, trivial⟩ (dp5 rfl) hb3⟩) fun z => ?_⟩
  refine ⟨rfl, rfl, ifs (fun z => ⟨sz _ rfl, sz _ rfl, sz _ rfl, sz _ rfl, sz _ rfl, h (.pick (.same .pl (.is sv)) (.is wv) .it) _ ⟨⟨trivial, sv0, sv1⟩, ⟨wv0, wv1⟩, trivial⟩ (dp5 rfl) hb3⟩) fun z => ?_⟩
  refine ⟨sz _ rfl, rfl, _, _, rfl, hb3, ⟨by decide, by decide⟩, fun v bag4 v0 v1 hb4 => ?_⟩
  refine ⟨rfl, bag4, 2 + v, rfl, hb4, ⟨by decide, by omega⟩, fun f bag5 gf df hb5 => h f _ gf (by omega) hb5⟩

end K28
end L3

set_option Elab.async false
set_option linter.all false
set_option maxRecDepth 100000
set_option autoImplicit false
set_option maxHeartbeats 0
namespace L3
namespace K28
open PySem PySem.Spec L2
open PyProof.Rows (b2i)

/-! ### rows -/
structure Row (r : List Int) : Prop where
  nd : r.Nodup
  mem : ∀ x ∈ r, 0 ≤ x ∧ x ≤ 9
  len : r.length ≤ 5
def iD (r : List Int) : List D := r.map D.int
def rowD (r : List Int) : D := .tup (iD r)
theorem iD_shp (r : List Int) : (D.lst (iD r)).shp = true ∧ (D.tup (iD r)).shp = true := by
  have a : D.oks (iD r) = true := by
    induction r with
    | nil => rfl
    | cons x r ih => show (true && D.oks (iD r)) = true; rw [ih]; rfl
  have b : D.deps (iD r) = 0 := by
    induction r with
    | nil => rfl
    | cons x r ih => show max 0 (D.deps (iD r)) = 0; rw [ih (by
        have : D.oks (iD (x :: r)) = (true && D.oks (iD r)) := rfl
        rw [this, Bool.true_and] at a; exact a)]; rfl
  constructor
  · show (D.oks (iD r) && decide (D.deps (iD r) + 1 ≤ 50)) = true
    rw [a, b]; rfl
  · show (D.oks (iD r) && decide (D.deps (iD r) + 1 ≤ 50)) = true
    rw [a, b]; rfl
theorem any_int (x : Int) (r : List Int) : ((iD r).any fun z => D.eqv z (.int x)) = decide (x ∈ r) := by
  induction r with
  | nil => rfl
  | cons y r ih =>
    show (D.eqv (.int y) (.int x) || (iD r).any fun z => D.eqv z (.int x)) = _
    rw [ih]
    have e : D.eqv (.int y) (.int x) = decide (x = y) := by
      show (y == x) = _
      by_cases e : x = y
      · subst e; simp
      · have e2 : ¬ y = x := fun z => e z.symm
        simp [e, e2]
    rw [e]
    simp [List.mem_cons]
theorem cutL_to {α : Type} (xs : List α) (k : Int) (h : 0 ≤ k) : cutL xs none (some k) = xs.take k.toNat := by
  unfold cutL HT.sIx
  have : ¬ k < 0 := by omega
  simp only [this, if_false, List.drop_zero, Nat.sub_zero]
  rw [List.take_eq_take_iff]; simp
theorem perm_iD {r : List Int} {ys : List D} (h : ys.Perm (iD r)) : ∃ s, s.Perm r ∧ ys = iD s := by
  have : ∀ (ys zs : List D), ys.Perm zs → ∀ r, zs = iD r → ∃ s, s.Perm r ∧ ys = iD s := by
    intro ys zs h
    induction h with
    | nil => intro r e; refine ⟨[], ?_, rfl⟩; cases r with
      | nil => exact .nil
      | cons _ _ => cases e
    | cons x _ ih =>
      intro r e
      cases r with
      | nil => cases e
      | cons y r =>
        injection e with e1 e2
        obtain ⟨s, hs, e⟩ := ih r e2
        exact ⟨y :: s, hs.cons y, by rw [e, e1]; rfl⟩
    | swap x y l =>
      intro r e
      match r, e with
      | a :: b :: r, e =>
        injection e with e1 e2
        injection e2 with e2 e3
        exact ⟨b :: a :: r, .swap _ _ _, by rw [e1, e2, e3]; rfl⟩
    | trans _ _ ih1 ih2 =>
      intro r e
      obtain ⟨s, hs, e⟩ := ih2 r e
      obtain ⟨t, ht, e⟩ := ih1 s e
      exact ⟨t, ht.trans hs, e⟩
  exact this _ _ h r rfl
theorem rowPerm {r s : List Int} (h : Row r) (p : s.Perm r) : Row s := ⟨p.nodup_iff.mpr h.nd, fun x hx => h.mem x (p.mem_iff.mp hx), by rw [p.length_eq]; exact h.len⟩
theorem rowTake {r : List Int} (h : Row r) (k : Nat) : Row (r.take k) := ⟨h.nd.sublist (List.take_sublist _ _), fun x hx => h.mem x (List.mem_of_mem_take hx), by rw [List.length_take]; have := h.len; omega⟩
theorem rowErase {r : List Int} (h : Row r) (k : Nat) : Row (r.eraseIdx k) := ⟨h.nd.sublist (List.eraseIdx_sublist _ _), fun x hx => h.mem x ((List.eraseIdx_sublist _ _).subset hx), by have := (List.eraseIdx_sublist r k).length_le; have := h.len; omega⟩
theorem rowIns {r : List Int} (h : Row r) (k : Nat) {x : Int} (hx : x ∉ r) (h0 : 0 ≤ x ∧ x ≤ 9) (hl : r.length < 5) : Row (r.take k ++ [x] ++ r.drop k) := by
  have p : (r.take k ++ [x] ++ r.drop k).Perm (x :: r) := by
    have : (r.take k ++ [x] ++ r.drop k).Perm ([x] ++ (r.take k ++ r.drop k)) := by
      rw [← List.append_assoc]
      exact (List.perm_append_comm).append_right _
    rw [List.take_append_drop] at this
    exact this
  refine ⟨p.nodup_iff.mpr (List.nodup_cons.mpr ⟨hx, h.nd⟩), fun y hy => ?_, by rw [p.length_eq]; simp; omega⟩
  rcases List.mem_cons.mp (p.mem_iff.mp hy) with rfl | hy
  · exact h0
  · exact h.mem y hy
theorem rowSet {r : List Int} (h : Row r) (k : Nat) {x : Int} (hx : x ∉ r) (h0 : 0 ≤ x ∧ x ≤ 9) : Row (r.set k x) := by
  refine ⟨?_, fun y hy => ?_, by rw [List.length_set]; exact h.len⟩
  · by_cases hk : k < r.length
    · have p : (r.set k x).Perm (x :: r.eraseIdx k) := by
        have := (erase_perm (l := r.set k x) (i := k) (by rw [List.length_set]; exact hk)).symm
        rw [List.getElem_set_self, List.eraseIdx_set_eq] at this
        exact this
      exact p.nodup_iff.mpr (List.nodup_cons.mpr ⟨fun z => hx ((List.eraseIdx_sublist _ _).subset z), h.nd.sublist (List.eraseIdx_sublist _ _)⟩)
    · rw [List.set_eq_of_length_le (by omega)]; exact h.nd
  · rcases List.mem_or_eq_of_mem_set hy with hy | rfl
    · exact h.mem y hy
    · exact h0
theorem nodup_len : ∀ {l r : List Int}, l.Nodup → (∀ x ∈ l, x ∈ r) → l.length ≤ r.length
  | [], _, _, _ => Nat.zero_le _
  | x :: l, r, nd, h => by
    have hx : x ∈ r := h x (List.mem_cons_self ..)
    have nd := List.nodup_cons.mp nd
    have := nodup_len (l := l) (r := r.erase x) nd.2 (fun y hy => (List.mem_erase_of_ne (fun (e : y = x) => nd.1 (by rw [← e]; exact hy))).mpr (h y (List.mem_cons_of_mem _ hy)))
    rw [List.length_erase_of_mem hx] at this
    have := List.length_pos_of_mem hx
    rw [List.length_cons]; omega
theorem ten (r : List Int) (h : r.length ≤ 5) : ((List.range 10).map fun i => ((0 : Int) + (i : Nat) * 1)).filter (fun x => decide (x ∉ r)) ≠ [] := by
  intro e
  have hall : ∀ x ∈ (List.range 10).map (fun i => ((0 : Int) + (i : Nat) * 1)), x ∈ r := fun x hx => by
    by_cases hr : x ∈ r
    · exact hr
    · have : x ∈ ((List.range 10).map fun i => ((0 : Int) + (i : Nat) * 1)).filter (fun x => decide (x ∉ r)) := List.mem_filter.mpr ⟨hx, by simpa using hr⟩
      rw [e] at this; cases this
  have nd : ((List.range 10).map fun i => ((0 : Int) + (i : Nat) * 1)).Nodup := by decide
  have := nodup_len nd hall
  rw [List.length_map, List.length_range] at this
  omega

def rng10 : List Int := (List.range 10).map fun i => ((0 : Int) + (i : Nat) * 1)
theorem rng_iD (n : Nat) : rngD 0 1 n = iD ((List.range n).map fun i => ((0 : Int) + (i : Nat) * 1)) := by unfold rngD iD; rw [List.map_map]; rfl
def fI (p : Int → Bool) : D → Option D := fun d => match d with
  | .int x => if p x = true then some d else none
  | _ => none
theorem fm_iD (p : Int → Bool) : ∀ l : List Int, (iD l).filterMap (fI p) = iD (l.filter p)
  | [] => rfl
  | x :: l => by
    show List.filterMap _ (D.int x :: iD l) = _
    rw [List.filterMap_cons]
    have e : fI p (.int x) = if p x = true then some (.int x) else none := rfl
    rw [e]
    by_cases h : p x = true
    · rw [if_pos h, List.filter_cons_of_pos h, fm_iD p l]; rfl
    · rw [if_neg h, List.filter_cons_of_neg h, fm_iD p l]
def spare (r : List Int) : List Int := rng10.filter fun x => decide (x ∉ r)
theorem spare_mem {r : List Int} {x : Int} (h : x ∈ spare r) : x ∉ r ∧ 0 ≤ x ∧ x ≤ 9 := by
  obtain ⟨h1, h2⟩ := List.mem_filter.mp h
  refine ⟨by simpa using h2, ?_⟩
  simp only [rng10, List.mem_map, List.mem_range] at h1
  obtain ⟨i, hi, rfl⟩ := h1
  omega
theorem iD_len (r : List Int) : (iD r).length = r.length := by unfold iD; rw [List.length_map]
theorem iD_mem {r : List Int} {d : D} (h : d ∈ iD r) : ∃ x ∈ r, d = .int x := by
  obtain ⟨x, h1, h2⟩ := List.mem_map.mp h
  exact ⟨x, h1, h2.symm⟩
theorem iD_get {r : List Int} {i : Nat} (h : i < r.length) : (iD r)[i]? = some (.int r[i]) := by unfold iD; rw [List.getElem?_map, List.getElem?_eq_getElem h]; rfl
theorem iD_set (r : List Int) (i : Nat) (x : Int) : (iD r).set i (.int x) = iD (r.set i x) := List.map_set.symm
theorem iD_erase : ∀ (r : List Int) (i : Nat), (iD r).eraseIdx i = iD (r.eraseIdx i)
  | [], _ => rfl
  | x :: r, 0 => rfl
  | x :: r, i + 1 => by
    show D.int x :: (iD r).eraseIdx i = D.int x :: iD (r.eraseIdx i)
    rw [iD_erase r i]
theorem iD_ins (r : List Int) (i : Nat) (x : Int) : (iD r).take i ++ [.int x] ++ (iD r).drop i = iD (r.take i ++ [x] ++ r.drop i) := by
  unfold iD; simp [List.map_take, List.map_drop]
theorem iD_rev (r : List Int) : (iD r).reverse = iD r.reverse := List.map_reverse.symm
theorem iD_emp (r : List Int) : (!(iD r).isEmpty) = true → 0 < r.length := by cases r <;> simp [iD]
/-! ### the rows shown -/
def rsD (rows : List (List Int)) : List D := rows.map rowD
structure Menu (rows : List (List Int)) : Prop where
  ne : rows ≠ []
  len : rows.length ≤ 4
  row : ∀ r ∈ rows, Row r
theorem rsD_mem {rows : List (List Int)} {d : D} (h : d ∈ rsD rows) : ∃ r ∈ rows, d = rowD r := by
  obtain ⟨x, h1, h2⟩ := List.mem_map.mp h
  exact ⟨x, h1, h2.symm⟩
theorem rsD_len (rows : List (List Int)) : (rsD rows).length = rows.length := by unfold rsD; rw [List.length_map]
theorem rsD_get {rows : List (List Int)} {i : Nat} (h : i < rows.length) : (rsD rows)[i]? = some (rowD rows[i]) := by unfold rsD; rw [List.getElem?_map, List.getElem?_eq_getElem h]; rfl
theorem perm_map {α : Type} {f : α → D} {r : List α} {ys : List D} (h : ys.Perm (r.map f)) : ∃ s : List α, s.Perm r ∧ ys = s.map f := by
  have : ∀ (ys zs : List D), ys.Perm zs → ∀ r : List α, zs = r.map f → ∃ s : List α, s.Perm r ∧ ys = s.map f := by
    intro ys zs h
    induction h with
    | nil => intro r e; cases r with
      | nil => exact ⟨[], .nil, rfl⟩
      | cons _ _ => cases e
    | cons x _ ih =>
      intro r e
      cases r with
      | nil => cases e
      | cons y r =>
        injection e with e1 e2
        obtain ⟨s, hs, e⟩ := ih r e2
        exact ⟨y :: s, hs.cons y, by rw [e, e1]; rfl⟩
    | swap x y l =>
      intro r e
      match r, e with
      | a :: b :: r, e =>
        injection e with e1 e2
        injection e2 with e2 e3
        exact ⟨b :: a :: r, .swap _ _ _, by rw [e1, e2, e3]; rfl⟩
    | trans _ _ ih1 ih2 =>
      intro r e
      obtain ⟨s, hs, e⟩ := ih2 r e
      obtain ⟨t, ht, e⟩ := ih1 s e
      exact ⟨t, ht.trans hs, e⟩
  exact this _ _ h r rfl
end K28
end L3

set_option Elab.async false
set_option linter.all false
set_option maxRecDepth 100000
set_option autoImplicit false
set_option maxHeartbeats 0
namespace L3
namespace K28
open PySem PySem.Spec L2
open PyProof.Rows (b2i)

/-! ### identities in a row -/
def prG : List Int → List Int → List (Int × Int)
  | _, [] => []
  | pre, v :: vs => (v, (pre.count v : Nat)) :: prG (pre ++ [v]) vs
theorem prG_app : ∀ (pre xs ys : List Int), prG pre (xs ++ ys) = prG pre xs ++ prG (pre ++ xs) ys
  | pre, [], ys => by simp [prG]
  | pre, x :: xs, ys => by simp [prG, prG_app (pre ++ [x]) xs ys]
theorem prG_len : ∀ (pre xs : List Int), (prG pre xs).length = xs.length
  | _, [] => rfl
  | pre, x :: xs => by simp [prG, prG_len (pre ++ [x]) xs]
theorem prG_fst : ∀ (pre xs : List Int), (prG pre xs).map (·.1) = xs
  | _, [] => rfl
  | pre, x :: xs => by simp [prG, prG_fst (pre ++ [x]) xs]
theorem prG_ge : ∀ (pre xs : List Int) (p : Int × Int), p ∈ prG pre xs → ((pre.count p.1 : Nat) : Int) ≤ p.2
  | _, [], p, h => by cases h
  | pre, x :: xs, p, h => by
    rcases List.mem_cons.mp h with rfl | h
    · exact Int.le_refl _
    · have := prG_ge (pre ++ [x]) xs p h
      rw [List.count_append] at this
      omega
theorem prG_nd : ∀ (pre xs : List Int), (prG pre xs).Nodup
  | _, [] => .nil
  | pre, x :: xs => by
    refine List.nodup_cons.mpr ⟨fun h => ?_, prG_nd (pre ++ [x]) xs⟩
    have := prG_ge (pre ++ [x]) xs _ h
    rw [List.count_append] at this
    simp at this
    omega
def vals (f : Fm) (r : List Int) : List Int := r.zipIdx.map fun p => f.val p.1 (p.2 : Nat)
theorem vals_snoc (f : Fm) (r : List Int) (x : Int) : vals f (r ++ [x]) = vals f r ++ [f.val x (r.length : Nat)] := by
  simp [vals, List.zipIdx_append]
theorem vals_len (f : Fm) (r : List Int) : (vals f r).length = r.length := by simp [vals]
def ids (f : Fm) (r : List Int) : List (Int × Int) := prG [] (vals f r)
theorem ids_len (f : Fm) (r : List Int) : (ids f r).length = r.length := by unfold ids; rw [prG_len, vals_len]
theorem ids_snoc (f : Fm) (r : List Int) (x : Int) : ids f (r ++ [x]) = ids f r ++ [(f.val x (r.length : Nat), (((vals f r).count (f.val x (r.length : Nat)) : Nat) : Int))] := by
  unfold ids; rw [vals_snoc, prG_app]; rfl
def pD (p : Int × Int) : D := .tup [.int p.1, .int p.2]
def psD (ps : List (Int × Int)) : List D := ps.map pD
theorem psD_len (ps : List (Int × Int)) : (psD ps).length = ps.length := by unfold psD; rw [List.length_map]
def fP (v : Int) : D → Option D := fun d => match d with
  | .tup (.int a :: _) => if D.eqv (.int a) (.int v) = true then some d else none
  | _ => none
theorem fP_len (v : Int) : ∀ ps : List (Int × Int), ((psD ps).filterMap (fP v)).length = (ps.map (·.1)).count v
  | [] => rfl
  | p :: ps => by
    show (List.filterMap _ (pD p :: psD ps)).length = _
    rw [List.filterMap_cons, List.map_cons, List.count_cons]
    have e : fP v (pD p) = if D.eqv (.int p.1) (.int v) = true then some (pD p) else none := rfl
    rw [e]
    by_cases h : p.1 = v
    · have h2 : D.eqv (.int p.1) (.int v) = true := by rw [eqi]; exact h
      rw [if_pos h2]
      simp [fP_len v ps, h]
    · have h2 : ¬ D.eqv (.int p.1) (.int v) = true := by rw [eqi]; exact h
      rw [if_neg h2]
      simp [fP_len v ps, h]
def sp__law_idents (A : Ad) : S3 := fun ds _ QO => ∃ (f : Fm) (r : List Int), ds = [f.d, rowD r] ∧ f.dep ≤ 7 ∧ r.length ≤ 5 ∧ QO (.lst (psD (ids f r))) ds
def b__law_idents_l1t1 (A : Ad) : T3S := (sDrop (eBM "list" mAppend (eVar 2) (aCons (eTup (aCons (eVar 5) (aCons (eCB cLen (aCons (eShr (oLc (iS (eVar 2)) (gN 6) (fTst (eOp (oEq false) (eOp oIdx (eVar 6) (eC (.int 0))) (eVar 5))) (eVar 6) [6])) aNil)) aNil))) aNil)))
def b__law_idents_l1 (A : Ad) : T3S := (sSeq (sAsg (eCall [.shr, .brw] (sp__law_value A) (aCons (eVar 0) (aCons (eShr (oDisp (("item", (eVar 4)) :: (("at", (eVar 3)) :: [])))) aNil))) (gN 5))
 (b__law_idents_l1t1 A))
def b__law_idents_t2 (A : Ad) : T3S := (sRet (eVar 2))
def b__law_idents_t1 (A : Ad) : T3S := (sSeq (sFor (iEP (aCons (eVar 1) aNil)) (gT 2 (fun xs ρ Q => match xs with | x :: r => (gN 3) x ρ fun ρ1 => (fun xs ρ Q => match xs with | x :: r => (gN 4) x ρ fun ρ1 => (fun xs ρ Q => xs = [] ∧ Q ρ) r ρ1 Q | [] => False) r ρ1 Q | [] => False))
 (b__law_idents_l1 A))
 (b__law_idents_t2 A))
def b__law_idents (A : Ad) : T3S := (sSeq (sAsgO (oLst aNil) 2)
 (b__law_idents_t1 A))
theorem t__law_idents (A : Ad) : ∀ ds QR QO, sp__law_idents A ds QR QO → ds.length = 2 → b__law_idents A (endE [.shr, .shr] ds QR QO) (startE 5 [.shr, .shr] ds) := by
  rintro ds QR QO ⟨f, r, rfl, hf, hl, h⟩ _
  refine ⟨sz _ rfl, rfl, ?_⟩
  show b__law_idents_t1 A _ [.shr f.d, .shr (rowD r), .own (.lst []), .emp, .emp, .emp, .emp]
  refine for_inv (fun i ρ => ∃ s3 s4 s5, s3.locked = false ∧ s4.locked = false ∧ s5.locked = false ∧ ρ = [.shr f.d, .shr (rowD r), .own (.lst (psD (ids f (r.take i)))), s3, s4, s5, .emp]) _ ?_ ?_ ⟨.emp, .emp, .emp, rfl, rfl, rfl, rfl⟩
  · rintro i d ρ N hd ⟨s3, s4, s5, h3, h4, h5, rfl⟩ hN
    obtain ⟨x, hx, rfl⟩ := pairsD_get hd
    have hi : i < r.length := by
      have := (List.getElem?_eq_some_iff.mp hx).1
      rw [iD_len] at this; exact this
    rw [iD_get hi] at hx
    cases hx
    refine ⟨rfl, unF h3, unF h4, rfl, ?_⟩
    show b__law_idents_l1 A { nx := N, rt := _, ro := _, bk := _, ct := N } [.shr f.d, .shr (rowD r), .own (.lst (psD (ids f (r.take i)))), .shr (.int (i : Nat)), .shr (.int r[i]), s5, .emp]
    refine ⟨by show 2 ≤ 15; decide, rfl, f, r[i], (i : Nat), rfl, hf, unF h5, ?_⟩
    show b__law_idents_l1t1 A { nx := N, rt := _, ro := _, bk := _, ct := N } [.shr f.d, .shr (rowD r), .own (.lst (psD (ids f (r.take i)))), .shr (.int (i : Nat)), .shr (.int r[i]), .shr (.int (f.val r[i] (i : Nat))), .emp]
    generalize hv : f.val r[i] (i : Nat) = v
    have hil : (ids f (r.take i)).length = i := by rw [ids_len, List.length_take]; omega
    refine ⟨rfl, ?_⟩
    refine lc_pure (ρ := [.shr f.d, .shr (rowD r), .brw (.lst (psD (ids f (r.take i)))), .shr (.int (i : Nat)), .shr (.int r[i]), .shr (.int v), .emp]) (fP v) (psD (ids f (r.take i))) rfl (by rw [psD_len, hil, sizeLine_eq]; omega) (fun d hd acc N hl hN => ?_) ⟨trivial, ?_⟩
    · obtain ⟨p, hp, rfl⟩ := List.mem_map.mp hd
      refine ⟨rfl, rfl, rfl, ?_⟩
      show if D.eqv (.int p.1) (.int v) = true then (acc.length < sizeLine ∧ N (acc ++ [pD p]) [.shr f.d, .shr (rowD r), .brw (.lst (psD (ids f (r.take i)))), .shr (.int (i : Nat)), .shr (.int r[i]), .shr (.int v), .emp]) else N acc [.shr f.d, .shr (rowD r), .brw (.lst (psD (ids f (r.take i)))), .shr (.int (i : Nat)), .shr (.int r[i]), .shr (.int v), .emp]
      have e : fP v (pD p) = if D.eqv (.int p.1) (.int v) = true then some (pD p) else none := rfl
      rw [e] at hN
      refine ifs (fun z => ?_) fun z => ?_
      · rw [if_pos z] at hN; exact ⟨hl, hN⟩
      · rw [if_neg z, Option.toList_none, List.append_nil] at hN; exact hN
    · have ec : ((psD (ids f (r.take i))).filterMap (fP v)).length = (vals f (r.take i)).count v := by
        rw [fP_len]; unfold ids; rw [prG_fst]
      have en : ids f (r.take (i + 1)) = ids f (r.take i) ++ [(v, (((vals f (r.take i)).count v : Nat) : Int))] := by
        rw [List.take_add_one, List.getElem?_eq_getElem hi]
        show ids f (r.take i ++ [r[i]]) = _
        have ei : (r.take i).length = i := by rw [List.length_take]; omega
        rw [ids_snoc, ei, hv]
      have fin : psD (ids f (r.take (i + 1))) = psD (ids f (r.take i)) ++ [.tup [.int v, .int (((psD (ids f (r.take i))).filterMap (fP v)).length : Nat)]] := by
        rw [en, ec]; unfold psD; rw [List.map_append]; rfl
      refine ⟨sz _ rfl, by rw [psD_len, hil, sizeLine_eq]; omega, hN _ ⟨.shr (.int (i : Nat)), .shr (.int r[i]), .shr (.int v), rfl, rfl, rfl, ?_⟩⟩
      rw [fin]
      rfl
  · rintro ρ ⟨s3, s4, s5, h3, h4, h5, rfl⟩
    rw [pairsD_len, iD_len, List.take_length]
    exact ⟨trivial, h⟩

/-! ### unlike, faithful -/
theorem rowD_at {r : List Int} {i : Nat} (h : i < r.length) : L2.atI (iD r) (i : Int) = some (.int r[i]) := atI_nat (iD_get h)
theorem psD_at {ps : List (Int × Int)} {i : Nat} (h : i < ps.length) : L2.atI (psD ps) (i : Int) = some (pD ps[i]) := atI_nat (by unfold psD; rw [List.getElem?_map, List.getElem?_eq_getElem h]; rfl)
theorem eqp {a b : Int × Int} : D.eqv (pD a) (pD b) = decide (a = b) := by
  show ((a.1 == b.1) && ((a.2 == b.2) && true)) = _
  rw [Bool.and_true, Bool.eq_iff_iff, Bool.and_eq_true, beq_iff_eq, beq_iff_eq, decide_eq_true_eq]
  exact ⟨fun h => Prod.ext h.1 h.2, fun h => by rw [h]; exact ⟨rfl, rfl⟩⟩
theorem eqi' {i j : Int} : D.eqv (.int i) (.int j) = decide (i = j) := by
  show (i == j) = _
  rw [Bool.eq_iff_iff, beq_iff_eq, decide_eq_true_eq]
def Unl (f : Fm) (old new : List Int) : Prop := ∃ (i j : Nat) (hi : i < old.length) (hj : j < new.length), ¬ ((ids f old)[i]? = (ids f new)[j]? ↔ old[i] = new[j])
theorem rng_get {n i : Nat} {d : D} (h : (rngD 0 1 n)[i]? = some d) : i < n ∧ d = .int (i : Nat) := by
  obtain ⟨h1, h2⟩ := rngD_get h
  exact ⟨h1, by rw [h2]; congr 1; omega⟩
def Faith (f : Fm) (rows : List (List Int)) : Prop := ∀ old ∈ rows, ∀ new ∈ rows, ¬ Unl f old new
theorem rsD_getD {rows : List (List Int)} {i : Nat} {d : D} (h : (rsD rows)[i]? = some d) : ∃ h : i < rows.length, d = rowD rows[i] := by
  have hi : i < rows.length := by have := (List.getElem?_eq_some_iff.mp h).1; rwa [rsD_len] at this
  rw [rsD_get hi] at h
  exact ⟨hi, (Option.some.inj h).symm⟩
end K28
end L3

set_option Elab.async false
set_option linter.all false
set_option maxRecDepth 100000
set_option autoImplicit false
set_option maxHeartbeats 0
namespace L3
namespace K28
open PySem PySem.Spec L2
open PyProof.Rows (b2i)

theorem oEq_in {neg : Bool} {x y : Rs} {ρ : En} {Q : Rs → En → Prop} {dx dy : D} (hx : x.dat ρ = some dx) (hy : y.dat ρ = some dy) (s1 : dx.shp = true) (s2 : dy.shp = true) (h : Q (.val (.bl (if neg then !D.eqv dx dy else D.eqv dx dy))) ρ) : oEq neg x y ρ Q := by
  unfold oEq wd; rw [hx, hy]; exact ⟨s1, s2, h⟩
/-! ### tables -/
def tabAt (f : Fm) (k : Nat) : Int := f.val ((k / 5 : Nat) : Int) ((k % 5 : Nat) : Int)
def tab (f : Fm) (n : Nat) : List Int := (List.range n).map (tabAt f)
theorem tab_len (f : Fm) (n : Nat) : (tab f n).length = n := by simp [tab]
theorem tab_get {f : Fm} {n k : Nat} (h : k < n) : (tab f n)[k]'(by rw [tab_len]; exact h) = tabAt f k := by simp [tab]
def fV (f : Fm) (i : Nat) : D → Option D := fun d => match d with
  | .int a => some (.int (f.val (i : Nat) a))
  | _ => none
theorem fV_all (f : Fm) (i : Nat) : (rngD 0 1 5).filterMap (fV f i) = iD ((List.range 5).map fun j => tabAt f (5 * i + j)) := by
  have e : ∀ j, j < 5 → (5 * i + j) / 5 = i ∧ (5 * i + j) % 5 = j := fun j hj => ⟨by omega, by omega⟩
  have go : ∀ l : List Nat, (∀ j ∈ l, j < 5) → (l.map fun j => D.int ((0 : Int) + (j : Nat) * 1)).filterMap (fV f i) = iD (l.map fun j => tabAt f (5 * i + j)) := by
    intro l
    induction l with
    | nil => intro _; rfl
    | cons j l ih =>
      intro hl
      have hj := hl j (List.mem_cons_self ..)
      rw [List.map_cons, List.filterMap_cons]
      have e2 : fV f i (.int ((0 : Int) + (j : Nat) * 1)) = some (.int (tabAt f (5 * i + j))) := by
        show some (D.int (f.val (i : Nat) ((0 : Int) + (j : Nat) * 1))) = _
        unfold tabAt
        rw [(e j hj).1, (e j hj).2]
        congr 3; omega
      rw [e2]
      show _ :: _ = _
      rw [ih fun k hk => hl k (List.mem_cons_of_mem _ hk)]
      rfl
  exact go (List.range 5) fun j hj => List.mem_range.mp hj
/-! ### below -/
theorem getD_put (k k' : Key) (d : D) : ∀ kvs : List (Key × D), getD' (putD kvs k d) k' = if k' = k then some d else getD' kvs k' := by
  intro kvs
  have gmap : ∀ kvs : List (Key × D), getD' (kvs.map fun kv => if kv.1 = k then (kv.1, d) else kv) k' = (getD' kvs k').map fun x => if k' = k then d else x := by
    intro kvs
    induction kvs with
    | nil => rfl
    | cons p r ih =>
      rw [List.map_cons]
      by_cases h : p.1 = k
      · rw [if_pos h]
        by_cases e : p.1 = k'
        · have e2 : k' = k := e.symm.trans h
          simp [getD', List.find?_cons, e, e2, h]
        · have a : getD' ((p.1, d) :: r.map fun kv => if kv.1 = k then (kv.1, d) else kv) k' = getD' (r.map fun kv => if kv.1 = k then (kv.1, d) else kv) k' := by simp [getD', List.find?_cons, e]
          have b : getD' (p :: r) k' = getD' r k' := by simp [getD', List.find?_cons, e]
          rw [a, b, ih]
      · rw [if_neg h]
        by_cases e : p.1 = k'
        · have e2 : ¬ k' = k := fun z => h (e.trans z)
          simp [getD', List.find?_cons, e, e2]
        · have a : getD' (p :: r.map fun kv => if kv.1 = k then (kv.1, d) else kv) k' = getD' (r.map fun kv => if kv.1 = k then (kv.1, d) else kv) k' := by simp [getD', List.find?_cons, e]
          have b : getD' (p :: r) k' = getD' r k' := by simp [getD', List.find?_cons, e]
          rw [a, b, ih]
  have gsnoc : ∀ kvs : List (Key × D), getD' (kvs ++ [(k, d)]) k' = (getD' kvs k').or (if k' = k then some d else none) := by
    intro kvs
    induction kvs with
    | nil =>
      by_cases e : k = k'
      · simp [getD', e]
      · have : ¬ k' = k := fun z => e z.symm
        simp [getD', e, this]
    | cons p r ih =>
      by_cases e : p.1 = k'
      · simp [getD', List.find?_cons, e]
      · have a : getD' ((p :: r) ++ [(k, d)]) k' = getD' (r ++ [(k, d)]) k' := by simp [getD', List.find?_cons, e]
        have b : getD' (p :: r) k' = getD' r k' := by simp [getD', List.find?_cons, e]
        rw [a, b, ih]
  have anyS : ∀ kvs : List (Key × D), (kvs.any fun kv => decide (kv.1 = k)) = (getD' kvs k).isSome := by
    intro kvs
    induction kvs with
    | nil => rfl
    | cons p r ih =>
      rw [List.any_cons, ih]
      by_cases e : p.1 = k
      · simp [getD', List.find?_cons, e]
      · have b : getD' (p :: r) k = getD' r k := by simp [getD', List.find?_cons, e]
        rw [b]; simp [e]
  unfold putD
  rw [anyS]
  by_cases q : (getD' kvs k).isSome = true
  · rw [if_pos q, gmap]
    by_cases e : k' = k
    · subst e
      obtain ⟨x, hx⟩ := Option.isSome_iff_exists.mp q
      simp [hx]
    · simp [e]
  · rw [if_neg q, gsnoc]
    by_cases e : k' = k
    · subst e
      have : getD' kvs k' = none := by simpa using q
      simp [this]
    · simp [e]
theorem put_len (k : Key) (d : D) (kvs : List (Key × D)) : (putD kvs k d).length ≤ kvs.length + 1 := by
  unfold putD
  split
  · rw [List.length_map]; omega
  · rw [List.length_append]; exact Nat.le_refl _
def Bel (n : Nat) (a b : Nat → Int) : Prop := ∀ p q, p < n → q < n → b p = b q → a p = a q
/-- what a dict of first meetings holds -/
structure Met (a b : Nat → Int) (i : Nat) (kvs : List (Key × D)) : Prop where
  len : kvs.length ≤ i
  at_ : ∀ p, p < i → getD' kvs (.inl (b p)) = some (.int (a p))
  no : ∀ v, (∀ p, p < i → b p ≠ v) → getD' kvs (.inl v) = none
theorem Met.nil {a b : Nat → Int} : Met a b 0 [] := ⟨Nat.le_refl _, fun p h => absurd h (Nat.not_lt_zero _), fun _ _ => rfl⟩
theorem Met.put {a b : Nat → Int} {i : Nat} {kvs : List (Key × D)} (m : Met a b i kvs) (h : ∀ p, p < i → b p = b i → a p = a i) : Met a b (i + 1) (putD kvs (.inl (b i)) (.int (a i))) := by
  refine ⟨Nat.le_trans (put_len _ _ _) (Nat.succ_le_succ m.len), fun p hp => ?_, fun v hv => ?_⟩
  · rw [getD_put]
    by_cases e : b p = b i
    · rw [if_pos (by rw [e])]
      by_cases hlt : p < i
      · rw [h p hlt e]
      · have : p = i := by omega
        rw [this]
    · rw [if_neg (fun z => e (Sum.inl.inj z))]
      by_cases hlt : p < i
      · exact m.at_ p hlt
      · have : p = i := by omega
        subst this; exact absurd rfl e
  · rw [getD_put, if_neg (fun z => hv i (Nat.lt_succ_self _) (Sum.inl.inj z).symm)]
    exact m.no v fun p hp => hv p (Nat.lt_succ_of_lt hp)
theorem Met.keep {a b : Nat → Int} {i : Nat} {kvs : List (Key × D)} (m : Met a b i kvs) {p : Nat} (hp : p < i) (e : b p = b i) (ea : a p = a i) : Met a b (i + 1) kvs := by
  refine ⟨Nat.le_succ_of_le m.len, fun q hq => ?_, fun v hv => m.no v fun q hq => hv q (Nat.lt_succ_of_lt hq)⟩
  by_cases hlt : q < i
  · exact m.at_ q hlt
  · have : q = i := by omega
    subst this
    rw [← e, ← ea]; exact m.at_ p hp
theorem Met.agree {a b : Nat → Int} {i : Nat} {kvs : List (Key × D)} (m : Met a b i kvs) {p q : Nat} (hp : p < i) (hq : q < i) (e : b p = b q) : a p = a q := by
  have h1 := m.at_ p hp
  rw [e, m.at_ q hq] at h1
  injection h1 with h1
  injection h1 with h1
  exact h1.symm
theorem tabD_at {f : Fm} {k : Nat} (h : k < 50) : L2.atI (iD (tab f 50)) (k : Int) = some (.int (tabAt f k)) := by
  have := rowD_at (r := tab f 50) (i := k) (by rw [tab_len]; exact h)
  rw [tab_get h] at this
  exact this
/-! ### what is due -/
theorem lc_of {α : Type} {g : T3G} {tt : T3T} {te : T3E} {vs : List Nat} {Q : List D → En → Prop} (l : List α) (it : α → D) (out : α → Option D) {items : List D} {ρ : En} (ei : items = l.map it) (no : noW ρ vs = true) (hl : l.length < sizeLine)
    (step : ∀ (a : α), a ∈ l → ∀ (acc : List D) (N : List D → En → Prop), acc.length < sizeLine → N (acc ++ (out a).toList) ρ → g (it a) (wipeE ρ vs) fun ρ2 => tt ρ2 fun b ρ3 =>
      if b = true then te ρ3 fun r ρ4 => match r with
        | .val d => acc.length < sizeLine ∧ N (acc ++ [d]) (restE ρ vs ρ4)
        | _ => False
      else N acc (restE ρ vs ρ3)) (done : Q (l.filterMap out) ρ) : lcL g tt te vs Q items [] ρ := by
  subst ei
  refine lc_inv (fun i acc ρ' => ρ' = ρ ∧ acc = (l.take i).filterMap out) (l.map it) ?_ ?_ ⟨rfl, by simp⟩
  · rintro i d acc _ N hd ⟨rfl, rfl⟩ hN
    rw [List.getElem?_map] at hd
    obtain ⟨a, ha, rfl⟩ := Option.map_eq_some_iff.mp hd
    refine ⟨no, step a (List.mem_of_getElem? ha) _ N ?_ (hN _ _ ⟨rfl, ?_⟩)⟩
    · have h1 := List.length_filterMap_le out (l.take i)
      have h2 := List.length_take_le' i l
      omega
    · rw [List.take_add_one, ha, List.filterMap_append]
      cases hf : out a <;> simp [hf]
  · rintro acc _ ⟨rfl, rfl⟩
    rw [List.length_map, List.take_length]; exact done
theorem fm_if {α : Type} (p : α → Bool) (g : α → D) : ∀ l : List α, l.filterMap (fun a => if p a = true then some (g a) else none) = (l.filter p).map g
  | [] => rfl
  | x :: l => by
    rw [List.filterMap_cons]
    by_cases h : p x = true
    · rw [if_pos h, List.filter_cons_of_pos h, List.map_cons, fm_if p g l]
    · rw [if_neg h, List.filter_cons_of_neg h, fm_if p g l]
theorem fm_all {α : Type} (g : α → D) : ∀ l : List α, l.filterMap (fun a => some (g a)) = l.map g
  | [] => rfl
  | x :: l => by rw [List.filterMap_cons, List.map_cons, fm_all g l]
def nD (l : List Nat) : List D := l.map fun (k : Nat) => D.int (k : Int)
theorem rng_nD (n : Nat) : rngD 0 1 n = nD (List.range n) := by
  unfold rngD nD
  apply List.map_congr_left
  intro k _
  congr 1; omega
def fsD (fs : List Fm) : List D := fs.map Fm.d
def nth (fs : List Fm) (k : Nat) : Fm := (fs[k]?).getD .it
theorem fsD_at {fs : List Fm} {k : Nat} (h : k < fs.length) : L2.atI (fsD fs) (k : Int) = some (nth fs k).d := atI_nat (by unfold fsD nth; rw [List.getElem?_map, List.getElem?_eq_getElem h]; rfl)
def tsD (fs : List Fm) : List D := fs.map fun f => .lst (iD (tab f 50))
theorem tsD_at {fs : List Fm} {k : Nat} (h : k < fs.length) : L2.atI (tsD fs) (k : Int) = some (.lst (iD (tab (nth fs k) 50))) := atI_nat (by unfold tsD nth; rw [List.getElem?_map, List.getElem?_eq_getElem h]; rfl)
def Bf (f g : Fm) : Prop := Bel 50 (tabAt f) (tabAt g)
def Gd (fs : List Fm) (rows : List (List Int)) (k : Nat) : Prop := Faith (nth fs k) rows
def Und (fs : List Fm) (j k : Nat) : Prop := Bf (nth fs j) (nth fs k) ∧ ¬ Bf (nth fs k) (nth fs j)
open Classical in
noncomputable def goodL (fs : List Fm) (rows : List (List Int)) : List Nat := (List.range fs.length).filter fun k => decide (Gd fs rows k)
open Classical in
noncomputable def dueL (fs : List Fm) (rows : List (List Int)) : List Nat := (goodL fs rows).filter fun k => decide (∀ j ∈ goodL fs rows, ¬ Und fs j k)
theorem good_lt {fs : List Fm} {rows : List (List Int)} {k : Nat} (h : k ∈ goodL fs rows) : k < fs.length ∧ Gd fs rows k := by
  unfold goodL at h
  obtain ⟨h1, h2⟩ := List.mem_filter.mp h
  exact ⟨List.mem_range.mp h1, by simpa using h2⟩
theorem good_in {fs : List Fm} {rows : List (List Int)} {k : Nat} (h : k < fs.length) (g : Gd fs rows k) : k ∈ goodL fs rows := by
  unfold goodL
  exact List.mem_filter.mpr ⟨List.mem_range.mpr h, by simpa using g⟩
theorem goodL_len (fs : List Fm) (rows : List (List Int)) : (goodL fs rows).length ≤ fs.length := by
  unfold goodL
  have := List.length_filter_le (fun k => @decide (Gd fs rows k) (Classical.propDecidable _)) (List.range fs.length)
  rw [List.length_range] at this; exact this
structure Fms (fs : List Fm) : Prop where
  len : fs.length ≤ 100
  dep : ∀ k, (nth fs k).dep ≤ 5
  good : ∀ k, (nth fs k).good
theorem nD_emp (l : List Nat) : ((!(nD l).isEmpty) = true) = (l ≠ []) := by cases l <;> simp [nD]
end K28
end L3

set_option Elab.async false
set_option linter.all false
set_option maxRecDepth 100000
set_option autoImplicit false
set_option maxHeartbeats 0
namespace L3
namespace K28
open PySem PySem.Spec L2
open PyProof.Rows (b2i)

/-! ### the lists compared -/
theorem nD_len (l : List Nat) : (nD l).length = l.length := by unfold nD; rw [List.length_map]
theorem nD_at {l : List Nat} {k : Nat} (h : k < l.length) : L2.atI (nD l) (k : Int) = some (.int (l[k] : Nat)) := atI_nat (by unfold nD; rw [List.getElem?_map, List.getElem?_eq_getElem h]; rfl)
/-! ### the library: checks -/
def sp_is_name (A : Ad) : S3 := fun ds QR _ => ∃ z : Str, ds = [.str z] ∧ (z = "item" ∨ z = "at") ∧ QR (.bl true) ds
def b_is_name_t1 (A : Ad) : T3S := (sRet (eCB cAll (aCons (eShr (oLc (iSt (eVar 0)) (gN 1) fYes (eOp (oInT false) (eVar 1) (eC (.str "abcdefghijklmnopqrstuvwxyz"))) [1])) aNil)))
def b_is_name (A : Ad) : T3S := (sSeq (sIf (fOr (fNot (fTru (eCB cIsi (aCons (eVar 0) (aCons (eC (.ty "str")) aNil))))) (fOr (fTst (eOp oLt (eCB cLen (aCons (eVar 0) aNil)) (eC (.int 1)))) (fTst (eOp oGt (eCB cLen (aCons (eVar 0) aNil)) (eC (.int 8))))))
 (sRet (eC (.bl false)))
 sNext)
 (b_is_name_t1 A))
theorem t_is_name (A : Ad) : ∀ ds QR QO, sp_is_name A ds QR QO → ds.length = 1 → b_is_name A (endE [.shr] ds QR QO) (startE 1 [.shr] ds) := by
  rintro ds QR QO ⟨z, rfl, hz, h⟩ _
  have inL : ∀ z : Str, (z = "item" ∨ z = "at") → ∀ c ∈ z.cps.toList, (!(Builtin.Str.occurrences ("abcdefghijklmnopqrstuvwxyz" : Str) (⟨#[c]⟩ : Str) 0 ("abcdefghijklmnopqrstuvwxyz" : Str).length 1).isEmpty) = true := by
    rintro z (rfl | rfl) <;> decide +kernel
  have comp : ∀ (z : Str) (n : Nat), (z = "item" ∨ z = "at") → (signs z).length < sizeLine → (signs z).filterMap (fun _ => some (D.bl true)) = (List.replicate n true).map D.bl → QR (.bl true) [.str z] → b_is_name_t1 A (endE [.shr] [.str z] QR QO) [.shr (.str z), .emp] := by
    intro z n hz hl hr h
    refine lc_pure (ρ := [.shr (.str z), .emp]) (fun _ => some (.bl true)) (signs z) rfl hl (fun d hd acc N hl hN => ?_) ⟨trivial, ?_⟩
    · obtain ⟨c, hc, rfl⟩ := List.mem_map.mp hd
      refine ⟨rfl, ?_⟩
      show acc.length < sizeLine ∧ N (acc ++ [.bl (!(Builtin.Str.occurrences ("abcdefghijklmnopqrstuvwxyz" : Str) (⟨#[c]⟩ : Str) 0 ("abcdefghijklmnopqrstuvwxyz" : Str).length 1).isEmpty)]) _
      rw [inL z hz c hc]
      exact ⟨hl, hN⟩
    · refine wo_in (x := List.replicate n true) (by rw [hr]; exact blsOf_map _) ?_
      have : (List.replicate n true).all id = true := by simp
      show QR (.bl ((List.replicate n true).all id)) _
      rw [this]; exact h
  rcases hz with rfl | rfl
  · exact ⟨rfl, by decide, by decide, comp _ 4 (.inl rfl) (by decide) rfl h⟩
  · exact ⟨rfl, by decide, by decide, comp _ 2 (.inr rfl) (by decide) rfl h⟩
def sp_is_number (A : Ad) : S3 := fun ds QR _ => ∃ n : Int, ds = [.int n, .int 0, .int 9] ∧ 0 ≤ n ∧ n ≤ 9 ∧ QR (.bl true) ds
def b_is_number (A : Ad) : T3S := (sRet (eAnd (eCB cIsi (aCons (eVar 0) (aCons (eC (.ty "int")) aNil))) (eAnd (eNot (eCB cIsi (aCons (eVar 0) (aCons (eC (.ty "bool")) aNil)))) (eChain oLe oLe (eVar 1) (eVar 0) (eVar 2)))))
theorem t_is_number (A : Ad) : ∀ ds QR QO, sp_is_number A ds QR QO → ds.length = 3 → b_is_number A (endE [.shr, .shr, .shr] ds QR QO) (startE 0 [.shr, .shr, .shr] ds) := by
  rintro ds QR QO ⟨n, rfl, h0, h1, h⟩ _
  refine ⟨rfl, rfl, ?_⟩
  refine ift (decide_eq_true h0) ?_
  have e : decide (n ≤ 9) = true := decide_eq_true h1
  show QR (.bl (decide (n ≤ 9))) _
  rw [e]; exact h
def sp_is_part (A : Ad) : S3 := fun ds QR _ => ∃ f : Fm, ds = [f.d] ∧ f.good ∧ QR (.bl true) ds
def b_is_part_t5 (A : Ad) : T3S := (sRet (eC (.bl true)))
def b_is_part_t4 (A : Ad) : T3S := (sSeq (sIf (fTst (eOp (oEq false) (eOp oIdx (eVar 0) (eC (.int 0))) (eC (.str "get"))))
 (sRet (eCall [.shr] (sp_is_name A) (aCons (eOp oIdx (eVar 0) (eC (.int 1))) aNil)))
 sNext)
 (b_is_part_t5 A))
def b_is_part_t3 (A : Ad) : T3S := (sSeq (sIf (fTst (eOp (oEq false) (eOp oIdx (eVar 0) (eC (.int 0))) (eC (.str "is"))))
 (sRet (eCall [.shr, .shr, .shr] (sp_is_number A) (aCons (eOp oIdx (eVar 0) (eC (.int 1))) (aCons (eC (.int 0)) (aCons (eC (.int 9)) aNil)))))
 sNext)
 (b_is_part_t4 A))
def b_is_part_t2 (A : Ad) : T3S := (sSeq (sIf (fTst (eOp (oEq true) (eCB cLen (aCons (eVar 0) aNil)) (eOp (oKGet A.COUNTS tbl_COUNTS) (eC (.cls A.COUNTS)) (eOp oIdx (eVar 0) (eC (.int 0))))))
 (sRet (eC (.bl false)))
 sNext)
 (b_is_part_t3 A))
def b_is_part_t1 (A : Ad) : T3S := (sSeq (sIf (fOr (fNot (fTru (eCB cIsi (aCons (eOp oIdx (eVar 0) (eC (.int 0))) (aCons (eC (.ty "str")) aNil))))) (fTst (eOp (oKIn true A.COUNTS tbl_COUNTS) (eOp oIdx (eVar 0) (eC (.int 0))) (eC (.cls A.COUNTS)))))
 (sRet (eC (.bl false)))
 sNext)
 (b_is_part_t2 A))
def b_is_part (A : Ad) : T3S := (sSeq (sIf (fOr (fNot (fTru (eCB cIsi (aCons (eVar 0) (aCons (eC (.ty "tuple")) aNil))))) (fTst (eOp (oEq false) (eCB cLen (aCons (eVar 0) aNil)) (eC (.int 0)))))
 (sRet (eC (.bl false)))
 sNext)
 (b_is_part_t1 A))
theorem t_is_part (A : Ad) : ∀ ds QR QO, sp_is_part A ds QR QO → ds.length = 1 → b_is_part A (endE [.shr] ds QR QO) (startE 0 [.shr] ds) := by
  rintro ds QR QO ⟨f, rfl, hg, h⟩ _
  cases f with
  | is n => exact ⟨rfl, rfl, rfl, rfl, rfl, rfl, rfl, rfl, sIs, sIs, rfl, n, rfl, hg.1, hg.2, h⟩
  | it => exact ⟨rfl, rfl, rfl, rfl, rfl, rfl, rfl, rfl, sGet, sIs, sGet, sGet, rfl, "item", rfl, .inl rfl, h⟩
  | pl => exact ⟨rfl, rfl, rfl, rfl, rfl, rfl, rfl, rfl, sGet, sIs, sGet, sGet, rfl, "at", rfl, .inr rfl, h⟩
  | sum a b => exact ⟨rfl, rfl, rfl, rfl, rfl, rfl, rfl, rfl, sSum, sIs, sSum, sGet, h⟩
  | same a b => exact ⟨rfl, rfl, rfl, rfl, rfl, rfl, rfl, rfl, sSame, sIs, sSame, sGet, h⟩
  | pick a b c => exact ⟨rfl, rfl, rfl, rfl, rfl, rfl, rfl, rfl, sPick, sIs, sPick, sGet, h⟩

def wtD (p : Fm × Int) : D := .tup [p.1.d, .int p.2]
def Fm.size : Fm → Nat
  | .sum a b => a.size + b.size + 1
  | .same a b => a.size + b.size + 1
  | .pick a b c => a.size + b.size + c.size + 1
  | _ => 1
def wsum (ws : List (Fm × Int)) : Nat := (ws.map fun p => p.1.size).sum
def sp_check_form (A : Ad) : S3 := fun ds QR _ => ∃ f : Fm, ds = [f.d] ∧ f.good ∧ f.dep ≤ 5 ∧ QR .non ds
def b_check_form_l1c3l2 (A : Ad) : T3S := (sDrop (eBM "list" mAppend (eVar 1) (aCons (eTup (aCons (eOp oIdx (eVar 3) (eVar 5)) (aCons (eOp oAdd (eVar 4) (eC (.int 1))) aNil))) aNil)))
def b_check_form_l1t3 (A : Ad) : T3S := (sIf (fAnd (fTst (eOp (oEq true) (eOp oIdx (eVar 3) (eC (.int 0))) (eC (.str "is")))) (fTst (eOp (oEq true) (eOp oIdx (eVar 3) (eC (.int 0))) (eC (.str "get")))))
 (sFor (iRm (aCons (eOp (oI0 fun i j => .int (i - j)) (eCB cLen (aCons (eVar 3) aNil)) (eC (.int 1))) (aCons (eC (.int 0)) (aCons (eNeg (eC (.int 1))) aNil)))) (gN 5)
 (b_check_form_l1c3l2 A))
 sNext)
def b_check_form_l1t2 (A : Ad) : T3S := (sSeq (sIf (fTst (eOp oGt (eVar 4) (eVar 2)))
 (sAsg (eVar 4) (gN 2))
 sNext)
 (b_check_form_l1t3 A))
def b_check_form_l1t1 (A : Ad) : T3S := (sSeq (sIf (fNot (fTru (eCall [.shr] (sp_is_part A) (aCons (eVar 3) aNil))))
 sNever
 sNext)
 (b_check_form_l1t2 A))
def b_check_form_l1 (A : Ad) : T3S := (sSeq (sAsg (eBM0 "list" mPop (eVar 1)) (gT 2 (fun xs ρ Q => match xs with | x :: r => (gN 3) x ρ fun ρ1 => (fun xs ρ Q => match xs with | x :: r => (gN 4) x ρ fun ρ1 => (fun xs ρ Q => xs = [] ∧ Q ρ) r ρ1 Q | [] => False) r ρ1 Q | [] => False)))
 (b_check_form_l1t1 A))
def b_check_form_t3 (A : Ad) : T3S := (sIf (fTst (eOp oGt (eVar 2) (eC (.int 5))))
 sNever
 sNext)
def b_check_form_t2 (A : Ad) : T3S := (sSeq (sWhile (fTru (eVar 1))
 (b_check_form_l1 A))
 (b_check_form_t3 A))
def b_check_form_t1 (A : Ad) : T3S := (sSeq (sAsg (eC (.int 1)) (gN 2))
 (b_check_form_t2 A))
def b_check_form (A : Ad) : T3S := (sSeq (sAsgO (oLst (aCons (eTup (aCons (eVar 0) (aCons (eC (.int 1)) aNil))) aNil)) 1)
 (b_check_form_t1 A))
theorem wsum_snoc (ws : List (Fm × Int)) (p : Fm × Int) : wsum (ws ++ [p]) = wsum ws + p.1.size := by simp [wsum]
theorem size_le : ∀ f : Fm, 2 * f.size + 1 ≤ 3 ^ f.dep
  | .is _ => by show 2 * 1 + 1 ≤ 3 ^ 1; decide
  | .it => by decide
  | .pl => by decide
  | .sum a b => by
    have h1 := size_le a
    have h2 := size_le b
    show 2 * (a.size + b.size + 1) + 1 ≤ 3 ^ (max a.dep b.dep + 1)
    have e1 : 3 ^ a.dep ≤ 3 ^ (max a.dep b.dep) := Nat.pow_le_pow_right (by decide) (by omega)
    have e2 : 3 ^ b.dep ≤ 3 ^ (max a.dep b.dep) := Nat.pow_le_pow_right (by decide) (by omega)
    rw [Nat.pow_succ]
    have : 1 ≤ 3 ^ (max a.dep b.dep) := Nat.one_le_pow _ _ (by decide)
    omega
  | .same a b => by
    have h1 := size_le a
    have h2 := size_le b
    show 2 * (a.size + b.size + 1) + 1 ≤ 3 ^ (max a.dep b.dep + 1)
    have e1 : 3 ^ a.dep ≤ 3 ^ (max a.dep b.dep) := Nat.pow_le_pow_right (by decide) (by omega)
    have e2 : 3 ^ b.dep ≤ 3 ^ (max a.dep b.dep) := Nat.pow_le_pow_right (by decide) (by omega)
    rw [Nat.pow_succ]
    have : 1 ≤ 3 ^ (max a.dep b.dep) := Nat.one_le_pow _ _ (by decide)
    omega
  | .pick a b c => by
    have h1 := size_le a
    have h2 := size_le b
    have h3 := size_le c
    show 2 * (a.size + b.size + c.size + 1) + 1 ≤ 3 ^ (max a.dep (max b.dep c.dep) + 1)
    have e1 : 3 ^ a.dep ≤ 3 ^ (max a.dep (max b.dep c.dep)) := Nat.pow_le_pow_right (by decide) (by omega)
    have e2 : 3 ^ b.dep ≤ 3 ^ (max a.dep (max b.dep c.dep)) := Nat.pow_le_pow_right (by decide) (by omega)
    have e3 : 3 ^ c.dep ≤ 3 ^ (max a.dep (max b.dep c.dep)) := Nat.pow_le_pow_right (by decide) (by omega)
    rw [Nat.pow_succ]
    omega
theorem size_pos (f : Fm) : 1 ≤ f.size := by cases f <;> simp [Fm.size]
theorem wsum_len : ∀ ws : List (Fm × Int), ws.length ≤ wsum ws
  | [] => Nat.le_refl _
  | p :: ws => by
    have := wsum_len ws
    have := size_pos p.1
    simp [wsum] at *
    omega
theorem pop_last (X : List D) (d : D) : (X ++ [d])[(X ++ [d]).length - 1]? = some d := by simp
theorem t_check_form (A : Ad) : ∀ ds QR QO, sp_check_form A ds QR QO → ds.length = 1 → b_check_form A (endE [.shr] ds QR QO) (startE 5 [.shr] ds) := by
  rintro ds QR QO ⟨f, rfl, hg, hd, h⟩ _
  refine ⟨sz _ rfl, sz _ rfl, rfl, rfl, ?_⟩
  show b_check_form_t2 A _ [.shr f.d, .own (.lst [wtD (f, 1)]), .shr (.int 1), .emp, .emp, .emp]
  refine ⟨fun m ρ => ∃ (ws : List (Fm × Int)) (deep : Int) (s3 s4 s5 : Sl), s3.locked = false ∧ s4.locked = false ∧ s5.locked = false ∧ deep ≤ 5 ∧ (∀ p ∈ ws, p.1.good ∧ (p.1.dep : Int) + p.2 ≤ 6) ∧ wsum ws = m ∧ m ≤ 1000 ∧ ρ = [.shr f.d, .own (.lst (ws.map wtD)), .shr (.int deep), s3, s4, s5], ⟨f.size, [(f, 1)], 1, .emp, .emp, .emp, rfl, rfl, rfl, by decide, ?_, by simp [wsum], ?_, rfl⟩, ?_⟩
  · intro p hp
    rw [List.mem_singleton.mp hp]
    exact ⟨hg, by show ((f.dep : Nat) : Int) + 1 ≤ 6; omega⟩
  · have h1 := size_le f
    have h2 : 3 ^ f.dep ≤ 3 ^ 5 := Nat.pow_le_pow_right (by decide) hd
    have h3 : (3 : Nat) ^ 5 = 243 := by decide
    omega
  · rintro m ρ ⟨ws, deep, s3, s4, s5, h3, h4, h5, hdp, hws, hm, hm2, rfl⟩
    rcases List.eq_nil_or_concat ws with rfl | ⟨ws', p, rfl⟩
    · show b_check_form_t3 A (endE [.shr] [f.d] QR QO) [.shr f.d, .own (.lst []), .shr (.int deep), s3, s4, s5]
      refine ifs (fun z => ?_) fun z => h
      have : (5 : Int) < deep := of_decide_eq_true z
      omega
    · rw [List.concat_eq_append] at hws hm ⊢
      rw [List.map_append]
      obtain ⟨g, lv⟩ := p
      obtain ⟨gg, gd⟩ := hws (g, lv) (by simp)
      have gd : (g.dep : Int) + lv ≤ 6 := gd
      have hws' : ∀ p ∈ ws', p.1.good ∧ (p.1.dep : Int) + p.2 ≤ 6 := fun p hp => hws p (List.mem_append_left _ hp)
      have hm : wsum ws' + g.size = m := by rw [wsum_snoc] at hm; exact hm
      have gp := g.dep_pos
      have hlen : (ws'.map wtD).length ≤ 1000 := by
        have := wsum_len ws'
        rw [List.length_map]; omega
      have ne : (!(ws'.map wtD ++ List.map wtD [(g, lv)]).isEmpty) = true := by simp
      refine ift ne ?_
      refine ⟨rfl, ?_⟩
      refine wo_in (x := wtD (g, lv)) (pop_last _ _) ⟨rfl, unF h3, unF h4, rfl, ?_⟩
      show b_check_form_l1t1 A { nx := _, rt := _, ro := _, bk := _, ct := _ } [.shr f.d, .own (.lst (ws'.map wtD ++ [wtD (g, lv)]).dropLast), .shr (.int deep), .shr g.d, .shr (.int lv), s5]
      rw [List.dropLast_concat]
      refine ⟨rfl, g, rfl, gg, ?_⟩
      show b_check_form_l1t2 A { nx := _, rt := _, ro := _, bk := _, ct := _ } [.shr f.d, .own (.lst (ws'.map wtD)), .shr (.int deep), .shr g.d, .shr (.int lv), s5]
      have rest : ∀ (deep : Int), deep ≤ 5 → ∀ (E : E3), (∀ (ws : List (Fm × Int)) (s5 : Sl), s5.locked = false → (∀ p ∈ ws, p.1.good ∧ (p.1.dep : Int) + p.2 ≤ 6) → wsum ws + 1 = m → E.nx [.shr f.d, .own (.lst (ws.map wtD)), .shr (.int deep), .shr g.d, .shr (.int lv), s5]) →
          b_check_form_l1t3 A E [.shr f.d, .own (.lst (ws'.map wtD)), .shr (.int deep), .shr g.d, .shr (.int lv), s5] := by
        intro deep hdp E hE
        have sl : ∀ n, n ≤ 1000 → n < sizeLine := fun n h => by rw [sizeLine_eq]; omega
        have hn : (g, lv).1 = g := rfl
        cases g with
        | is n => exact ⟨sIs, sIs, hE ws' s5 h5 hws' (by simpa [Fm.size] using hm)⟩
        | it => exact ⟨sGet, sIs, sGet, sGet, hE ws' s5 h5 hws' (by simpa [Fm.size] using hm)⟩
        | pl => exact ⟨sGet, sIs, sGet, sGet, hE ws' s5 h5 hws' (by simpa [Fm.size] using hm)⟩
        | sum a b =>
          have gd : ((max a.dep b.dep + 1 : Nat) : Int) + lv ≤ 6 := gd
          have esz : Fm.size (.sum a b) = a.size + b.size + 1 := rfl
          have hl3 : (ws'.map wtD).length + 2 ≤ 1000 := by
            have := wsum_len ws'
            have := size_pos a
            have := size_pos b
            rw [List.length_map]; omega
          refine ⟨sSum, sIs, sSum, sGet, rfl, ⟨by show (-(2 ^ 62) : Int) ≤ 2; decide, by show (2 : Int) < 2 ^ 62; decide, by decide, by decide⟩, unF h5, rfl, sz _ rfl, sl _ hlen, rfl, rfl, sz _ rfl, sl _ (by rw [List.length_append]; show _ + 1 ≤ _; omega), trivial, ?_⟩
          have := hE (ws' ++ [(b, lv + 1), (a, lv + 1)]) (.shr (.int 1)) rfl ?_ ?_
          · rw [List.map_append] at this
            rw [List.append_assoc]
            exact this
          · intro p hp
            rcases List.mem_append.mp hp with hp | hp
            · exact hws' p hp
            · simp only [List.mem_cons, List.not_mem_nil, or_false] at hp
              rcases hp with rfl | rfl
              · exact ⟨gg.2, by show ((b.dep : Nat) : Int) + (lv + 1) ≤ 6; omega⟩
              · exact ⟨gg.1, by show ((a.dep : Nat) : Int) + (lv + 1) ≤ 6; omega⟩
          · simp [wsum] at hm ⊢; omega
        | same a b =>
          have gd : ((max a.dep b.dep + 1 : Nat) : Int) + lv ≤ 6 := gd
          have esz : Fm.size (.same a b) = a.size + b.size + 1 := rfl
          have hl3 : (ws'.map wtD).length + 2 ≤ 1000 := by
            have := wsum_len ws'
            have := size_pos a
            have := size_pos b
            rw [List.length_map]; omega
          refine ⟨sSame, sIs, sSame, sGet, rfl, ⟨by show (-(2 ^ 62) : Int) ≤ 2; decide, by show (2 : Int) < 2 ^ 62; decide, by decide, by decide⟩, unF h5, rfl, sz _ rfl, sl _ hlen, rfl, rfl, sz _ rfl, sl _ (by rw [List.length_append]; show _ + 1 ≤ _; omega), trivial, ?_⟩
          have := hE (ws' ++ [(b, lv + 1), (a, lv + 1)]) (.shr (.int 1)) rfl ?_ ?_
          · rw [List.map_append] at this
            rw [List.append_assoc]
            exact this
          · intro p hp
            rcases List.mem_append.mp hp with hp | hp
            · exact hws' p hp
            · simp only [List.mem_cons, List.not_mem_nil, or_false] at hp
              rcases hp with rfl | rfl
              · exact ⟨gg.2, by show ((b.dep : Nat) : Int) + (lv + 1) ≤ 6; omega⟩
              · exact ⟨gg.1, by show ((a.dep : Nat) : Int) + (lv + 1) ≤ 6; omega⟩
          · simp [wsum] at hm ⊢; omega
        | pick a b c =>
          have gd : ((max a.dep (max b.dep c.dep) + 1 : Nat) : Int) + lv ≤ 6 := gd
          have esz : Fm.size (.pick a b c) = a.size + b.size + c.size + 1 := rfl
          have hl3 : (ws'.map wtD).length + 3 ≤ 1000 := by
            have := wsum_len ws'
            have := size_pos a
            have := size_pos b
            have := size_pos c
            rw [List.length_map]; omega
          refine ⟨sPick, sIs, sPick, sGet, rfl, ⟨by show (-(2 ^ 62) : Int) ≤ 3; decide, by show (3 : Int) < 2 ^ 62; decide, by decide, by decide⟩, unF h5, rfl, sz _ rfl, sl _ hlen, rfl, rfl, sz _ rfl, sl _ (by rw [List.length_append]; show _ + 1 ≤ _; omega), rfl, rfl, sz _ rfl, sl _ (by rw [List.length_append, List.length_append]; show _ + 1 + 1 ≤ _; omega), trivial, ?_⟩
          have := hE (ws' ++ [(c, lv + 1), (b, lv + 1), (a, lv + 1)]) (.shr (.int 1)) rfl ?_ ?_
          · rw [List.map_append] at this
            rw [List.append_assoc, List.append_assoc]
            exact this
          · intro p hp
            rcases List.mem_append.mp hp with hp | hp
            · exact hws' p hp
            · simp only [List.mem_cons, List.not_mem_nil, or_false] at hp
              rcases hp with rfl | rfl | rfl
              · exact ⟨gg.2.2, by show ((c.dep : Nat) : Int) + (lv + 1) ≤ 6; omega⟩
              · exact ⟨gg.2.1, by show ((b.dep : Nat) : Int) + (lv + 1) ≤ 6; omega⟩
              · exact ⟨gg.1, by show ((a.dep : Nat) : Int) + (lv + 1) ≤ 6; omega⟩
          · simp [wsum] at hm ⊢; omega
      refine ifs (fun z => ⟨rfl, ?_⟩) fun z => ?_
      · exact rest lv (by omega) _ fun ws s5 h5 hws hs => ⟨wsum ws, by omega, ws, lv, _, _, _, rfl, rfl, h5, by omega, hws, rfl, by omega, rfl⟩
      · exact rest deep hdp _ fun ws s5 h5 hws hs => ⟨wsum ws, by omega, ws, deep, _, _, _, rfl, rfl, h5, hdp, hws, rfl, by omega, rfl⟩

end K28
end L3

set_option Elab.async false
set_option linter.all false
set_option maxRecDepth 100000
set_option autoImplicit false
set_option maxHeartbeats 0
namespace L3
namespace K28
open PySem PySem.Spec L2
open PyProof.Rows (b2i)

/-! ### the library: values, names, rows -/
def sp_value_of' (n : Nat) : S3 := sp__law_value' n
def sp_value_of (A : Ad) : S3 := sp_value_of' 7
def b_value_of_c2t1 (A : Ad) (me : S3) : T3S := (sRet (eDGet (eVar 1) (eOp oIdx (eVar 0) (eC (.int 1)))))
def b_value_of_c4t1 (A : Ad) (me : S3) : T3S := (sRet (eCall [.shr, .brw] me (aCons (eOp oIdx (eVar 0) (eC (.int 3))) (aCons (eVar 1) aNil))))
def b_value_of_t7 (A : Ad) (me : S3) : T3S := (sRet (eC (.int 0)))
def b_value_of_t6 (A : Ad) (me : S3) : T3S := (sSeq (sIf (fTst (eOp (oEq false) (eVar 2) (eVar 3)))
 (sRet (eC (.int 1)))
 sNext)
 (b_value_of_t7 A me))
def b_value_of_t5 (A : Ad) (me : S3) : T3S := (sSeq (sIf (fTst (eOp (oEq false) (eOp oIdx (eVar 0) (eC (.int 0))) (eC (.str "sum"))))
 (sRet (eOp (oI (fun _ j => 0 < j) fun i j => .int (i % j)) (eOp oAdd (eVar 2) (eVar 3)) (eC (.int 10))))
 sNext)
 (b_value_of_t6 A me))
def b_value_of_t4 (A : Ad) (me : S3) : T3S := (sSeq (sAsg (eCall [.shr, .brw] me (aCons (eOp oIdx (eVar 0) (eC (.int 2))) (aCons (eVar 1) aNil))) (gN 3))
 (b_value_of_t5 A me))
def b_value_of_t3 (A : Ad) (me : S3) : T3S := (sSeq (sAsg (eCall [.shr, .brw] me (aCons (eOp oIdx (eVar 0) (eC (.int 1))) (aCons (eVar 1) aNil))) (gN 2))
 (b_value_of_t4 A me))
def b_value_of_t2 (A : Ad) (me : S3) : T3S := (sSeq (sIf (fTst (eOp (oEq false) (eOp oIdx (eVar 0) (eC (.int 0))) (eC (.str "pick"))))
 (sSeq (sIf (fTst (eOp (oEq true) (eCall [.shr, .brw] me (aCons (eOp oIdx (eVar 0) (eC (.int 1))) (aCons (eVar 1) aNil))) (eC (.int 0))))
 (sRet (eCall [.shr, .brw] me (aCons (eOp oIdx (eVar 0) (eC (.int 2))) (aCons (eVar 1) aNil))))
 sNext)
 (b_value_of_c4t1 A me))
 sNext)
 (b_value_of_t3 A me))
def b_value_of_t1 (A : Ad) (me : S3) : T3S := (sSeq (sIf (fTst (eOp (oEq false) (eOp oIdx (eVar 0) (eC (.int 0))) (eC (.str "get"))))
 (sSeq (sIf (fTst (fDIn true (eOp oIdx (eVar 0) (eC (.int 1))) (eVar 1)))
 sNever
 sNext)
 (b_value_of_c2t1 A me))
 sNext)
 (b_value_of_t2 A me))
def b_value_of (A : Ad) (me : S3) : T3S := (sSeq (sIf (fTst (eOp (oEq false) (eOp oIdx (eVar 0) (eC (.int 0))) (eC (.str "is"))))
 (sRet (eOp oIdx (eVar 0) (eC (.int 1))))
 sNext)
 (b_value_of_t1 A me))
theorem t_value_of (A : Ad) (n : Nat) : ∀ ds QR QO, sp_value_of' (n + 1) ds QR QO → ds.length = 2 → b_value_of A (sp_value_of' n) (endE [.shr, .brw] ds QR QO) (startE 2 [.shr, .brw] ds) := by
  rintro ds QR QO ⟨f, i, p, rfl, hd, h⟩ _
  cases f with
  | is m => exact ⟨sIs, sIs, h⟩
  | it => exact ⟨sGet, sIs, sGet, sGet, h⟩
  | pl => exact ⟨sGet, sIs, sGet, sGet, h⟩
  | sum a b =>
    have hd : max a.dep b.dep + 1 ≤ n + 1 := hd
    refine ⟨sSum, sIs, sSum, sGet, sSum, sPick, rfl, a, i, p, rfl, by omega, rfl, rfl, b, i, p, rfl, by omega, rfl, sSum, sSum, pm _ rfl, h⟩
  | same a b =>
    have hd : max a.dep b.dep + 1 ≤ n + 1 := hd
    refine ⟨sSame, sIs, sSame, sGet, sSame, sPick, rfl, a, i, p, rfl, by omega, rfl, rfl, b, i, p, rfl, by omega, rfl, sSame, sSum, ?_⟩
    have e : Fm.val i p (.same a b) = if a.val i p = b.val i p then 1 else 0 := rfl
    rw [e] at h
    refine ⟨rfl, rfl, ifs (fun z => ?_) fun z => ?_⟩
    · have z : a.val i p = b.val i p := by
        have z : D.eqv (.int (a.val i p)) (.int (b.val i p)) = true := z
        rwa [eqi] at z
      rw [if_pos z] at h
      exact h
    · have z : ¬ a.val i p = b.val i p := by
        have z : ¬ D.eqv (.int (a.val i p)) (.int (b.val i p)) = true := z
        rwa [eqi] at z
      rw [if_neg z] at h
      exact h
  | pick a b c =>
    have hd : max a.dep (max b.dep c.dep) + 1 ≤ n + 1 := hd
    have e : Fm.val i p (.pick a b c) = if a.val i p ≠ 0 then b.val i p else c.val i p := rfl
    rw [e] at h
    refine ⟨sPick, sIs, sPick, sGet, sPick, sPick, rfl, a, i, p, rfl, by omega, rfl, rfl, ifs (fun z => ?_) fun z => ?_⟩
    · have z : ¬ a.val i p = 0 := by
        have z : (!(D.eqv (.int (a.val i p)) (.int 0))) = true := z
        rw [eqi'] at z; simpa using z
      rw [if_pos z] at h
      exact ⟨rfl, b, i, p, rfl, by omega, h⟩
    · have z : a.val i p = 0 := by
        have z : ¬ (!(D.eqv (.int (a.val i p)) (.int 0))) = true := z
        rw [eqi'] at z; simpa using z
      rw [if_neg (by simpa using z)] at h
      exact ⟨rfl, c, i, p, rfl, by omega, h⟩
/-- the names that a form reads -/
structure Nms (ns : List Str) : Prop where
  nd : ns.Nodup
  mem : ∀ n ∈ ns, n = "item" ∨ n = "at"
theorem Nms.len {ns : List Str} (h : Nms ns) : ns.length ≤ 2 := by
  match ns, h with
  | [], _ => exact Nat.zero_le _
  | [_], _ => exact Nat.le_of_ble_eq_true rfl
  | [_, _], _ => exact Nat.le_of_ble_eq_true rfl
  | a :: b :: c :: r, h =>
    exfalso
    have ha := h.mem a (by simp)
    have hb := h.mem b (by simp)
    have hc := h.mem c (by simp)
    have nd := h.nd
    simp only [List.nodup_cons, List.mem_cons, not_or] at nd
    rcases ha with rfl | rfl <;> rcases hb with rfl | rfl <;> rcases hc with rfl | rfl <;> simp_all
def zD (ns : List Str) : List D := ns.map D.str
def sp_names_of' (n : Nat) : S3 := fun ds QR _ => ∃ f : Fm, ds = [f.d] ∧ f.dep ≤ n ∧ ∀ ns, Nms ns → QR (.tup (zD ns)) ds
def sp_names_of (A : Ad) : S3 := sp_names_of' 7
def b_names_of_l1l2 (A : Ad) (me : S3) : T3S := (sIf (fTst (eOp (oIn true) (eVar 3) (eVar 1)))
 (sDrop (eBM "list" mAppend (eVar 1) (aCons (eVar 3) aNil)))
 sNext)
def b_names_of_l1 (A : Ad) (me : S3) : T3S := (sFor (iS (eCall [.shr] me (aCons (eVar 2) aNil))) (gN 3)
 (b_names_of_l1l2 A me))
def b_names_of_t4 (A : Ad) (me : S3) : T3S := (sRet (eCB cTuple (aCons (eVar 1) aNil)))
def b_names_of_t3 (A : Ad) (me : S3) : T3S := (sSeq (sFor (iS (eSl (eVar 0) (pSo (eC (.int 1))) pNo)) (gN 2)
 (b_names_of_l1 A me))
 (b_names_of_t4 A me))
def b_names_of_t2 (A : Ad) (me : S3) : T3S := (sSeq (sAsgO (oLst aNil) 1)
 (b_names_of_t3 A me))
def b_names_of_t1 (A : Ad) (me : S3) : T3S := (sSeq (sIf (fTst (eOp (oEq false) (eOp oIdx (eVar 0) (eC (.int 0))) (eC (.str "get"))))
 (sRet (eTup (aCons (eOp oIdx (eVar 0) (eC (.int 1))) aNil)))
 sNext)
 (b_names_of_t2 A me))
def b_names_of (A : Ad) (me : S3) : T3S := (sSeq (sIf (fTst (eOp (oEq false) (eOp oIdx (eVar 0) (eC (.int 0))) (eC (.str "is"))))
 (sRet (eTup aNil))
 sNext)
 (b_names_of_t1 A me))
theorem zD_ok {ns : List Str} (h : ∀ n ∈ ns, n = ("item" : Str) ∨ n = "at") : (D.lst (zD ns)).shp = true := by
  have a : D.oks (zD ns) = true := by
    induction ns with
    | nil => rfl
    | cons x r ih =>
      have hx := h x (List.mem_cons_self ..)
      have sx : (D.str x).ok = true := by
        rcases hx with rfl | rfl
        · exact (Bool.and_eq_true_iff.mp sItem).1
        · exact (Bool.and_eq_true_iff.mp sAt).1
      show ((D.str x).ok && D.oks (zD r)) = true
      rw [ih fun n hn => h n (List.mem_cons_of_mem _ hn), sx]; rfl
  have b : D.deps (zD ns) = 0 := by
    clear a h
    induction ns with
    | nil => rfl
    | cons x r ih => show max 0 (D.deps (zD r)) = 0; rw [ih]; rfl
  show (D.oks (zD ns) && decide (D.deps (zD ns) + 1 ≤ 50)) = true
  rw [a, b]; rfl
theorem any_str (x : Str) (r : List Str) : ((zD r).any fun z => D.eqv z (.str x)) = decide (x ∈ r) := by
  induction r with
  | nil => rfl
  | cons y r ih =>
    show (D.eqv (.str y) (.str x) || (zD r).any fun z => D.eqv z (.str x)) = _
    rw [ih]
    have e : D.eqv (.str y) (.str x) = decide (x = y) := by
      show (y == x) = _
      by_cases e : x = y
      · subst e; simp
      · have e2 : ¬ y = x := fun z => e z.symm
        simp [e, e2]
    rw [e]
    simp [List.mem_cons]
theorem shpN {x : Str} (h : x = ("item" : Str) ∨ x = "at") : (D.str x).shp = true := by
  rcases h with rfl | rfl
  · exact sItem
  · exact sAt
theorem t_names_of (A : Ad) (n : Nat) : ∀ ds QR QO, sp_names_of' (n + 1) ds QR QO → ds.length = 1 → b_names_of A (sp_names_of' n) (endE [.shr] ds QR QO) (startE 3 [.shr] ds) := by
  rintro ds QR QO ⟨f, rfl, hd, h⟩ _
  have one : ∀ (g : Fm), g.dep ≤ n → ∀ (E : E3) (ns : List Str) (x : D) (s3 : Sl), Nms ns → s3.locked = false → (∀ ns' s3', Nms ns' → s3'.locked = false → E.nx [.shr f.d, .own (.lst (zD ns')), .shr g.d, s3']) → b_names_of_l1 A (sp_names_of' n) E [.shr f.d, .own (.lst (zD ns)), .shr g.d, s3] := by
    intro g hg E ns x s3 hns h3 hE
    refine ⟨rfl, g, rfl, hg, fun ms hms => ?_⟩
    refine for_inv (fun i ρ => ∃ ns s3, Nms ns ∧ s3.locked = false ∧ ρ = [.shr f.d, .own (.lst (zD ns)), .shr g.d, s3]) _ ?_ ?_ ⟨ns, s3, hns, h3, rfl⟩
    · rintro i d ρ N hd ⟨ns, s3, hns, h3, rfl⟩ hN
      obtain ⟨y, hy, rfl⟩ := List.mem_map.mp (List.mem_of_getElem? hd)
      have hyn := hms.mem y hy
      refine ⟨unF h3, ?_⟩
      refine ⟨shpN hyn, zD_ok hns.mem, ?_⟩
      show if (!((zD ns).any fun z => D.eqv z (.str y))) = true then _ else _
      rw [any_str]
      by_cases hm : y ∈ ns
      · refine ife (by simp [hm]) (hN _ ⟨ns, .shr (.str y), hns, rfl, rfl⟩)
      · refine ift (by simp [hm]) ⟨rfl, ?_, hN _ ⟨ns ++ [y], .shr (.str y), ⟨?_, ?_⟩, rfl, ?_⟩⟩
        · have := hns.len
          unfold zD; rw [List.length_map, sizeLine_eq]; omega
        · exact List.nodup_append.mpr ⟨hns.nd, by simp, by rintro a ha b hb rfl; rw [List.mem_singleton.mp hb] at ha; exact hm ha⟩
        · intro k hk
          rcases List.mem_append.mp hk with hk | hk
          · exact hns.mem k hk
          · rw [List.mem_singleton.mp hk]; exact hyn
        · unfold zD; rw [List.map_append]; rfl
    · rintro ρ ⟨ns, s3, hns, h3, rfl⟩
      exact ⟨trivial, hE ns s3 hns h3⟩
  cases f with
  | is m => exact ⟨sIs, sIs, sz _ rfl, h [] ⟨by simp, by simp⟩⟩
  | it => exact ⟨sGet, sIs, sGet, sGet, sz _ rfl, h ["item"] ⟨by simp, by simp⟩⟩
  | pl => exact ⟨sGet, sIs, sGet, sGet, sz _ rfl, h ["at"] ⟨by simp, by simp⟩⟩
  | sum a b =>
    have hd : max a.dep b.dep + 1 ≤ n + 1 := hd
    refine ⟨sSum, sIs, sSum, sGet, sz _ rfl, rfl, rfl, one a (by omega) _ [] .non .emp ⟨by simp, by simp⟩ rfl fun ns s3 hns h3 => ⟨rfl, one b (by omega) _ ns .non s3 hns h3 fun ns s3 hns h3 => ⟨trivial, h ns hns⟩⟩⟩
  | same a b =>
    have hd : max a.dep b.dep + 1 ≤ n + 1 := hd
    refine ⟨sSame, sIs, sSame, sGet, sz _ rfl, rfl, rfl, one a (by omega) _ [] .non .emp ⟨by simp, by simp⟩ rfl fun ns s3 hns h3 => ⟨rfl, one b (by omega) _ ns .non s3 hns h3 fun ns s3 hns h3 => ⟨trivial, h ns hns⟩⟩⟩
  | pick a b c =>
    have hd : max a.dep (max b.dep c.dep) + 1 ≤ n + 1 := hd
    refine ⟨sPick, sIs, sPick, sGet, sz _ rfl, rfl, rfl, one a (by omega) _ [] .non .emp ⟨by simp, by simp⟩ rfl fun ns s3 hns h3 => ⟨rfl, one b (by omega) _ ns .non s3 hns h3 fun ns s3 hns h3 => ⟨rfl, one c (by omega) _ ns .non s3 hns h3 fun ns s3 hns h3 => ⟨trivial, h ns hns⟩⟩⟩⟩
def sp_check_row (A : Ad) : S3 := fun ds QR _ => ∃ r, ds = [rowD r] ∧ Row r ∧ QR .non ds
def b_check_row_l1t2 (A : Ad) : T3S := (sDrop (eBM "list" mAppend (eVar 1) (aCons (eVar 2) aNil)))
def b_check_row_l1t1 (A : Ad) : T3S := (sSeq (sIf (fOr (fTst (eOp oLt (eVar 2) (eC (.int 0)))) (fOr (fTst (eOp oGt (eVar 2) (eC (.int 9)))) (fTst (eOp (oIn false) (eVar 2) (eVar 1)))))
 sNever
 sNext)
 (b_check_row_l1t2 A))
def b_check_row_l1 (A : Ad) : T3S := (sSeq (sIf (fOr (fNot (fTru (eCB cIsi (aCons (eVar 2) (aCons (eC (.ty "int")) aNil))))) (fTru (eCB cIsi (aCons (eVar 2) (aCons (eC (.ty "bool")) aNil)))))
 sNever
 sNext)
 (b_check_row_l1t1 A))
def b_check_row_t2 (A : Ad) : T3S := (sFor (iS (eVar 0)) (gN 2)
 (b_check_row_l1 A))
def b_check_row_t1 (A : Ad) : T3S := (sSeq (sAsgO (oLst aNil) 1)
 (b_check_row_t2 A))
def b_check_row (A : Ad) : T3S := (sSeq (sIf (fOr (fNot (fTru (eCB cIsi (aCons (eVar 0) (aCons (eC (.ty "tuple")) aNil))))) (fTst (eOp oGt (eCB cLen (aCons (eVar 0) aNil)) (eC (.int 5)))))
 sNever
 sNext)
 (b_check_row_t1 A))
theorem t_check_row (A : Ad) : ∀ ds QR QO, sp_check_row A ds QR QO → ds.length = 1 → b_check_row A (endE [.shr] ds QR QO) (startE 2 [.shr] ds) := by
  rintro ds QR QO ⟨r, rfl, hr, h⟩ _
  have h5 := hr.len
  refine ⟨rfl, ife (by rw [decide_eq_true_eq, iD_len]; omega) ⟨sz _ rfl, rfl, ?_⟩⟩
  refine for_inv (fun i ρ => ∃ s2, s2.locked = false ∧ ρ = [.shr (rowD r), .own (.lst (iD (r.take i))), s2]) _ ?_ ?_ ⟨.emp, rfl, rfl⟩
  · rintro i d ρ N hd ⟨s2, h2, rfl⟩ hN
    have hi : i < r.length := by
      have := (List.getElem?_eq_some_iff.mp hd).1
      rwa [iD_len] at this
    have hd : (iD r)[i]? = some d := hd
    rw [iD_get hi] at hd
    cases hd
    have hx := hr.mem _ (List.getElem_mem hi)
    have hni : r[i] ∉ r.take i := fun z => by
      have nd := hr.nd
      rw [← List.take_append_drop i r, List.drop_eq_getElem_cons hi] at nd
      exact (List.nodup_append.mp nd).2.2 _ z _ (List.mem_cons_self ..) rfl
    refine ⟨unF h2, rfl, rfl, ?_⟩
    refine ife (by rw [decide_eq_true_eq]; omega) (ife (by rw [decide_eq_true_eq]; omega) ⟨rfl, (iD_shp _).1, ?_⟩)
    show if ((iD (r.take i)).any fun z => D.eqv z (.int r[i])) = true then _ else _
    rw [any_int]
    refine ife (by simpa using hni) ⟨rfl, ?_, hN _ ⟨.shr (.int r[i]), rfl, ?_⟩⟩
    · rw [iD_len, List.length_take, sizeLine_eq]; omega
    · rw [List.take_add_one, List.getElem?_eq_getElem hi]
      unfold iD; rw [List.map_append]; rfl
  · rintro ρ ⟨s2, h2, rfl⟩
    exact ⟨trivial, h⟩

end K28
end L3

set_option Elab.async false
set_option linter.all false
set_option maxRecDepth 100000
set_option autoImplicit false
set_option maxHeartbeats 0
namespace L3
namespace K28
open PySem PySem.Spec L2
open PyProof.Rows (b2i)

/-! ### identities, orders -/
def sp_idents_of (A : Ad) : S3 := fun ds QR _ => ∃ (f : Fm) (r : List Int), ds = [f.d, rowD r] ∧ f.dep ≤ 7 ∧ r.length ≤ 5 ∧ QR (.tup (psD (ids f r))) ds
def b_idents_of_l1t2 (A : Ad) : T3S := (sDrop (eBM "list" mAppend (eVar 2) (aCons (eVar 5) aNil)))
def b_idents_of_l1t1 (A : Ad) : T3S := (sSeq (sDrop (eBM "list" mAppend (eVar 3) (aCons (eTup (aCons (eVar 5) (aCons (eBM "list" mCount (eVar 2) (aCons (eVar 5) aNil)) aNil))) aNil)))
 (b_idents_of_l1t2 A))
def b_idents_of_l1 (A : Ad) : T3S := (sSeq (sAsg (eCall [.shr, .brw] (sp_value_of A) (aCons (eVar 0) (aCons (eShr (oDisp (("item", (eOp oIdx (eVar 1) (eVar 4))) :: (("at", (eVar 4)) :: [])))) aNil))) (gN 5))
 (b_idents_of_l1t1 A))
def b_idents_of_t3 (A : Ad) : T3S := (sRet (eCB cTuple (aCons (eVar 3) aNil)))
def b_idents_of_t2 (A : Ad) : T3S := (sSeq (sFor (iR1 (aCons (eCB cLen (aCons (eVar 1) aNil)) aNil)) (gN 4)
 (b_idents_of_l1 A))
 (b_idents_of_t3 A))
def b_idents_of_t1 (A : Ad) : T3S := (sSeq (sAsgO (oLst aNil) 3)
 (b_idents_of_t2 A))
def b_idents_of (A : Ad) : T3S := (sSeq (sAsgO (oLst aNil) 2)
 (b_idents_of_t1 A))
theorem t_idents_of (A : Ad) : ∀ ds QR QO, sp_idents_of A ds QR QO → ds.length = 2 → b_idents_of A (endE [.shr, .shr] ds QR QO) (startE 4 [.shr, .shr] ds) := by
  rintro ds QR QO ⟨f, r, rfl, hf, hl, h⟩ _
  refine ⟨sz _ rfl, rfl, sz _ rfl, rfl, ⟨by omega, by rw [iD_len]; omega⟩, ?_⟩
  refine for_inv (fun i ρ => ∃ s4 s5, s4.locked = false ∧ s5.locked = false ∧ ρ = [.shr f.d, .shr (rowD r), .own (.lst (iD (vals f (r.take i)))), .own (.lst (psD (ids f (r.take i)))), s4, s5]) _ ?_ ?_ ⟨.emp, .emp, rfl, rfl, rfl⟩
  · rintro i d ρ N hd ⟨s4, s5, h4, h5, rfl⟩ hN
    obtain ⟨hi, rfl⟩ := rng_get hd
    have hi : i < r.length := by
      have : i < ((iD r).length : Int).toNat := hi
      rw [iD_len] at this; omega
    refine ⟨unF h4, ?_⟩
    show b_idents_of_l1 A { nx := N, rt := _, ro := _, bk := _, ct := N } [.shr f.d, .shr (rowD r), .own (.lst (iD (vals f (r.take i)))), .own (.lst (psD (ids f (r.take i)))), .shr (.int (i : Nat)), s5]
    refine wo_in (rowD_at hi) ⟨by show 2 ≤ 15; decide, rfl, f, r[i], (i : Nat), rfl, hf, unF h5, ?_⟩
    show b_idents_of_l1t1 A { nx := N, rt := _, ro := _, bk := _, ct := N } [.shr f.d, .shr (rowD r), .own (.lst (iD (vals f (r.take i)))), .own (.lst (psD (ids f (r.take i)))), .shr (.int (i : Nat)), .shr (.int (f.val r[i] (i : Nat)))]
    have hil : (ids f (r.take i)).length = i := by rw [ids_len, List.length_take]; omega
    have hvl : (vals f (r.take i)).length = i := by rw [vals_len, List.length_take]; omega
    have ei : (r.take i).length = i := by rw [List.length_take]; omega
    have ev : vals f (r.take (i + 1)) = vals f (r.take i) ++ [f.val r[i] (i : Nat)] := by
      rw [List.take_add_one, List.getElem?_eq_getElem hi]
      show vals f (r.take i ++ [r[i]]) = _
      rw [vals_snoc, ei]
    have en : ids f (r.take (i + 1)) = ids f (r.take i) ++ [(f.val r[i] (i : Nat), (((vals f (r.take i)).count (f.val r[i] (i : Nat)) : Nat) : Int))] := by
      rw [List.take_add_one, List.getElem?_eq_getElem hi]
      show ids f (r.take i ++ [r[i]]) = _
      rw [ids_snoc, ei]
    refine ⟨rfl, rfl, wo_in (intsOf_map (vals f (r.take i))) ⟨sz _ rfl, by rw [psD_len, hil, sizeLine_eq]; omega, rfl, by rw [iD_len, hvl, sizeLine_eq]; omega, hN _ ⟨.shr (.int (i : Nat)), .shr (.int (f.val r[i] (i : Nat))), rfl, rfl, ?_⟩⟩⟩
    rw [ev, en]
    unfold iD psD
    rw [List.map_append, List.map_append]
    rfl
  · rintro ρ ⟨s4, s5, h4, h5, rfl⟩
    rw [rngD_len]
    show okL _ _ _ ∧ _
    have e : ((iD r).length : Int).toNat = r.length := by rw [iD_len]; omega
    have e2 : r.take ((iD r).length : Int).toNat = r := by rw [e, List.take_length]
    refine ⟨trivial, ?_⟩
    show QR (.tup (psD (ids f (r.take ((iD r).length : Int).toNat)))) _
    rw [e2]; exact h
/-! ### keys -/
def kD (A : Ad) (f : Fm) : D := .obj A.Key [("form", f.d)]
def sp_Key___init__ (A : Ad) : S3 := fun ds QR _ => ∃ f : Fm, ds = [.obj A.Key [], f.d] ∧ f.good ∧ f.dep ≤ 5 ∧ QR .non [kD A f, f.d]
def b_Key___init___l1 (A : Ad) : T3S := (sIf (fAnd (fTst (eOp (oEq true) (eVar 2) (eC (.str "item")))) (fTst (eOp (oEq true) (eVar 2) (eC (.str "at")))))
 sNever
 sNext)
def b_Key___init___t2 (A : Ad) : T3S := (sFldP A.Key "form" (eVar 1) (eVar 0))
def b_Key___init___t1 (A : Ad) : T3S := (sSeq (sFor (iS (eCall [.shr] (sp_names_of A) (aCons (eVar 1) aNil))) (gN 2)
 (b_Key___init___l1 A))
 (b_Key___init___t2 A))
def b_Key___init__ (A : Ad) : T3S := (sSeq (sDrop (eCall [.shr] (sp_check_form A) (aCons (eVar 1) aNil)))
 (b_Key___init___t1 A))
theorem t_Key___init__ (A : Ad) : ∀ ds QR QO, sp_Key___init__ A ds QR QO → ds.length = 2 → b_Key___init__ A (endE [.par, .shr] ds QR QO) (startE 1 [.par, .shr] ds) := by
  rintro ds QR QO ⟨f, rfl, hg, hd, h⟩ _
  refine ⟨rfl, f, rfl, hg, hd, ?_⟩
  show b_Key___init___t1 A _ [.par (.obj A.Key []), .shr f.d, .emp]
  refine ⟨rfl, f, rfl, by omega, fun ns hns => ?_⟩
  refine for_inv (fun i ρ => ∃ s2, s2.locked = false ∧ ρ = [.par (.obj A.Key []), .shr f.d, s2]) _ ?_ ?_ ⟨.emp, rfl, rfl⟩
  · rintro i d ρ N hd ⟨s2, h2, rfl⟩ hN
    obtain ⟨y, hy, rfl⟩ := List.mem_map.mp (List.mem_of_getElem? hd)
    refine ⟨unF h2, ?_⟩
    rcases hns.mem y hy with rfl | rfl
    · exact ⟨sItem, sItem, hN _ ⟨_, rfl, rfl⟩⟩
    · exact ⟨sAt, sItem, sAt, sAt, hN _ ⟨_, rfl, rfl⟩⟩
  · rintro ρ ⟨s2, h2, rfl⟩
    exact ⟨trivial, rfl, by show 0 < 1000; decide, h⟩
def sp_Key_idents (A : Ad) : S3 := fun ds QR _ => ∃ (f : Fm) (r : List Int), ds = [kD A f, rowD r] ∧ f.dep ≤ 7 ∧ Row r ∧ QR (.tup (psD (ids f r))) ds
def b_Key_idents_t1 (A : Ad) : T3S := (sRet (eCall [.shr, .shr] (sp_idents_of A) (aCons (eFld A.Key "form" (eVar 0)) (aCons (eVar 1) aNil))))
def b_Key_idents (A : Ad) : T3S := (sSeq (sDrop (eCall [.shr] (sp_check_row A) (aCons (eVar 1) aNil)))
 (b_Key_idents_t1 A))
theorem fm_nb (f : Fm) : f.d.isBx = false := by cases f <;> rfl
theorem t_Key_idents (A : Ad) : ∀ ds QR QO, sp_Key_idents A ds QR QO → ds.length = 2 → b_Key_idents A (endE [.shr, .shr] ds QR QO) (startE 0 [.shr, .shr] ds) := by
  rintro ds QR QO ⟨f, r, rfl, hf, hr, h⟩ _
  exact ⟨rfl, r, rfl, hr, rfl, fm_nb f, rfl, f, r, rfl, hf, hr.len, h⟩

end K28
end L3

set_option Elab.async false
set_option linter.all false
set_option maxRecDepth 100000
set_option autoImplicit false
set_option maxHeartbeats 0
namespace L3
namespace K28
open PySem PySem.Spec L2
open PyProof.Rows (b2i)

theorem nd_inj {α : Type} {l : List α} (nd : l.Nodup) {i j : Nat} (hi : i < l.length) (hj : j < l.length) : l[i] = l[j] ↔ i = j := by
  refine ⟨fun e => ?_, fun e => by subst e; rfl⟩
  have pw := List.pairwise_iff_getElem.mp nd
  rcases Nat.lt_trichotomy i j with h | h | h
  · exact absurd e (pw i j hi hj h)
  · exact h
  · exact absurd e.symm (pw j i hj hi h)
/-! ### going wrong -/
theorem psD_ok (ps : List (Int × Int)) : (D.tup (psD ps)).shp = true := by
  have a : D.oks (psD ps) = true := by
    induction ps with
    | nil => rfl
    | cons x r ih => show (true && D.oks (psD r)) = true; rw [ih]; rfl
  have b : D.deps (psD ps) ≤ 1 := by
    clear a
    induction ps with
    | nil => exact Nat.zero_le _
    | cons x r ih => show max 1 (D.deps (psD r)) ≤ 1; omega
  show (D.oks (psD ps) && decide (D.deps (psD ps) + 1 ≤ 50)) = true
  rw [a, Bool.true_and, decide_eq_true_eq]
  omega
theorem any_pr (q : Int × Int) (r : List (Int × Int)) : ((psD r).any fun z => D.eqv z (pD q)) = decide (q ∈ r) := by
  induction r with
  | nil => rfl
  | cons y r ih =>
    show (D.eqv (pD y) (pD q) || (psD r).any fun z => D.eqv z (pD q)) = _
    rw [ih, eqp]
    by_cases e : y = q
    · subst e; simp
    · have e2 : ¬ q = y := fun z => e z.symm
      simp [e, e2]
theorem idx_pr {q : Int × Int} {r : List (Int × Int)} (h : q ∈ r) : ∃ (j : Nat) (hj : j < r.length), ((psD r).findIdx? fun z => D.eqv z (pD q)) = some j ∧ r[j] = q := by
  cases e : (psD r).findIdx? fun z => D.eqv z (pD q) with
  | none =>
    rw [List.findIdx?_eq_none_iff] at e
    have := e (pD q) (List.mem_map.mpr ⟨q, h, rfl⟩)
    rw [eqp] at this
    simp at this
  | some j =>
    obtain ⟨hj, hp, _⟩ := List.findIdx?_eq_some_iff_getElem.mp e
    have hj2 : j < r.length := by rwa [psD_len] at hj
    refine ⟨j, hj2, rfl, ?_⟩
    have e2 : (psD r)[j] = pD r[j] := (List.getElem?_eq_some_iff.mp (show (psD r)[j]? = some (pD r[j]) from by unfold psD; rw [List.getElem?_map, List.getElem?_eq_getElem hj2]; rfl)).2
    have hp : D.eqv (psD r)[j] (pD q) = true := hp
    rw [e2, eqp] at hp
    exact of_decide_eq_true hp
def sp_goes_wrong (A : Ad) : S3 := fun ds QR _ => ∃ (f : Fm) (old new : List Int), ds = [rowD old, .tup (psD (ids f old)), rowD new, .tup (psD (ids f new))] ∧ Row old ∧ Row new ∧ ∀ r : Bool, (r = true ↔ Unl f old new) → QR (.bl r) ds
def b_goes_wrong_l1 (A : Ad) : T3S := (sIf (fTst (eOp (oIn false) (eOp oIdx (eVar 3) (eVar 4)) (eVar 1)))
 (sIf (fTst (eOp (oEq true) (eOp oIdx (eVar 0) (eTIdx (eVar 1) (aCons (eOp oIdx (eVar 3) (eVar 4)) aNil))) (eOp oIdx (eVar 2) (eVar 4))))
 (sRet (eC (.bl true)))
 sNext)
 (sIf (fTst (eOp (oIn false) (eOp oIdx (eVar 2) (eVar 4)) (eVar 0)))
 (sRet (eC (.bl true)))
 sNext))
def b_goes_wrong_t1 (A : Ad) : T3S := (sRet (eC (.bl false)))
def b_goes_wrong (A : Ad) : T3S := (sSeq (sFor (iR1 (aCons (eCB cLen (aCons (eVar 2) aNil)) aNil)) (gN 4)
 (b_goes_wrong_l1 A))
 (b_goes_wrong_t1 A))
theorem t_goes_wrong (A : Ad) : ∀ ds QR QO, sp_goes_wrong A ds QR QO → ds.length = 4 → b_goes_wrong A (endE [.shr, .shr, .shr, .shr] ds QR QO) (startE 1 [.shr, .shr, .shr, .shr] ds) := by
  rintro ds QR QO ⟨f, old, new, rfl, ho, hn, h⟩ _
  have lo := ho.len
  have ln := hn.len
  refine ⟨⟨by omega, by rw [iD_len]; omega⟩, ?_⟩
  refine for_inv (fun i ρ => ∃ s4, s4.locked = false ∧ (∀ (i' j : Nat) (hi : i' < old.length) (hj : j < new.length), j < i → ((ids f old)[i']? = (ids f new)[j]? ↔ old[i'] = new[j])) ∧ ρ = [.shr (rowD old), .shr (.tup (psD (ids f old))), .shr (rowD new), .shr (.tup (psD (ids f new))), s4]) _ ?_ ?_ ⟨.emp, rfl, fun _ _ _ _ z => absurd z (Nat.not_lt_zero _), rfl⟩
  · rintro i d ρ N hd ⟨s4, h4, inv, rfl⟩ hN
    obtain ⟨hi, rfl⟩ := rng_get hd
    have hi : i < new.length := by
      have : i < ((iD new).length : Int).toNat := hi
      rw [iD_len] at this; omega
    have hi2 : i < (ids f new).length := by rw [ids_len]; exact hi
    refine ⟨unF h4, ?_⟩
    show b_goes_wrong_l1 A { nx := N, rt := _, ro := _, bk := _, ct := N } [.shr (rowD old), .shr (.tup (psD (ids f old))), .shr (rowD new), .shr (.tup (psD (ids f new))), .shr (.int (i : Nat))]
    have nx : (∀ i' (hi' : i' < old.length), ((ids f old)[i']? = (ids f new)[i]? ↔ old[i'] = new[i])) → N [.shr (rowD old), .shr (.tup (psD (ids f old))), .shr (rowD new), .shr (.tup (psD (ids f new))), .shr (.int (i : Nat))] := fun q =>
      hN _ ⟨.shr (.int (i : Nat)), rfl, fun i' j hi' hj hlt => by
        by_cases e : j < i
        · exact inv i' j hi' hj e
        · have e : j = i := by omega
          subst e; exact q i' hi', rfl⟩
    have iu : ∀ i' (hi' : i' < old.length), ((ids f old)[i']? = (ids f new)[i]?) = ((ids f old)[i']'(by rw [ids_len]; exact hi') = (ids f new)[i]) := fun i' hi' => by
      rw [List.getElem?_eq_getElem hi2, List.getElem?_eq_getElem (by rw [ids_len]; exact hi')]; simp
    refine wo_in (psD_at hi2) ⟨rfl, psD_ok _, ?_⟩
    show if ((psD (ids f old)).any fun z => D.eqv z (pD (ids f new)[i])) = true then _ else _
    rw [any_pr]
    refine ifs (fun z => ?_) fun z => ?_
    · have z : (ids f new)[i] ∈ ids f old := of_decide_eq_true z
      obtain ⟨k, hk, ek, eq⟩ := idx_pr z
      have hk2 : k < old.length := by rwa [ids_len] at hk
      refine wo_in (psD_at hi2) ⟨⟨psD_ok _, rfl⟩, wo_in ek (wo_in (rowD_at hk2) (wo_in (rowD_at hi) ⟨rfl, rfl, ifs (fun z2 => ?_) fun z2 => ?_⟩))⟩
      · have z2 : old[k] ≠ new[i] := by
          have z2 : (!(D.eqv (.int old[k]) (.int new[i]))) = true := z2
          rw [eqi'] at z2; simpa using z2
        refine ⟨trivial, h true ⟨fun _ => ⟨k, i, hk2, hi, ?_⟩, fun _ => rfl⟩⟩
        rw [iu k hk2]
        exact fun q => z2 (q.mp eq)
      · have z2 : old[k] = new[i] := by
          have z2 : ¬ (!(D.eqv (.int old[k]) (.int new[i]))) = true := z2
          rw [eqi'] at z2; simpa using z2
        refine nx fun i' hi' => ?_
        rw [iu i' hi', ← eq, ← z2]
        have n1 : (ids f old).Nodup := prG_nd [] _
        rw [nd_inj n1, nd_inj ho.nd]
    · have z : (ids f new)[i] ∉ ids f old := fun q => z (decide_eq_true q)
      have nid : ∀ i' (hi' : i' < old.length), ¬ (ids f old)[i']? = (ids f new)[i]? := fun i' hi' q => by
        rw [iu i' hi'] at q
        exact z (q ▸ List.getElem_mem _)
      refine wo_in (rowD_at hi) ⟨rfl, (iD_shp old).2, ?_⟩
      show if ((iD old).any fun z => D.eqv z (.int new[i])) = true then _ else _
      rw [any_int]
      refine ifs (fun z2 => ?_) fun z2 => ?_
      · have z2 : new[i] ∈ old := of_decide_eq_true z2
        obtain ⟨k, hk, ek⟩ := List.mem_iff_getElem.mp z2
        exact ⟨trivial, h true ⟨fun _ => ⟨k, i, hk, hi, fun q => nid k hk (q.mpr ek)⟩, fun _ => rfl⟩⟩
      · have z2 : new[i] ∉ old := fun q => z2 (decide_eq_true q)
        exact nx fun i' hi' => ⟨fun q => absurd q (nid i' hi'), fun q => absurd (q ▸ List.getElem_mem hi') z2⟩
  · rintro ρ ⟨s4, h4, inv, rfl⟩
    refine ⟨trivial, h false ⟨fun z => (nomatch z), fun ⟨i, j, hi, hj, n⟩ => absurd (inv i j hi hj ?_) n⟩⟩
    rw [rngD_len]; show j < ((iD new).length : Int).toNat; rw [iD_len]; omega
def rwD (f : Fm) (r : List Int) : D := .tup [rowD r, .tup (psD (ids f r))]
theorem map_getD {α : Type} {g : α → D} {l : List α} {i : Nat} {d : D} (h : (l.map g)[i]? = some d) : ∃ h : i < l.length, d = g l[i] := by
  have hi : i < l.length := by have := (List.getElem?_eq_some_iff.mp h).1; rwa [List.length_map] at this
  rw [List.getElem?_map, List.getElem?_eq_getElem hi] at h
  exact ⟨hi, (Option.some.inj h).symm⟩
end K28
end L3

set_option pp.maxSteps 3000
set_option Elab.async false
set_option linter.all false
set_option maxRecDepth 100000
set_option autoImplicit false
set_option maxHeartbeats 0
namespace L3
open PySem PySem.Spec L2
theorem wd_bx {ρ : En} {i : Nat} {f : Str} {b : Addr} {d : D} {k : D → Prop} (h : boxOf ρ i f = some (b, d)) (hk : k d) : wd (.bx i f b) ρ k := by
  have e : (Rs.bx i f b).dat ρ = some d := by
    show (match boxOf ρ i f with | some (b', d) => if b' = b then some d else none | none => none) = some d
    rw [h]
    exact if_pos rfl
  unfold wd
  rw [e]; exact hk
theorem getN_put {kvs : List (D × D)} {dk d : D} {k k' : NestedKey} (hk : dk.nk = some k) : getN (putN kvs dk k d) k' = if k' = k then some d else getN kvs k' := by
  have gmap : ∀ kvs : List (D × D), getN (kvs.map fun p => if p.1.nk = some k then (p.1, d) else p) k' = (getN kvs k').map fun x => if k' = k then d else x := by
    intro kvs
    induction kvs with
    | nil => rfl
    | cons p r ih =>
      rw [List.map_cons]
      by_cases h : p.1.nk = some k'
      · have a : getN (p :: r) k' = some p.2 := by simp [getN, h]
        rw [a]
        by_cases e : k' = k
        · subst e
          rw [if_pos h]
          simp [getN, h]
        · have e' : ¬ p.1.nk = some k := by rw [h]; simpa using e
          rw [if_neg e']
          simp [getN, h, e]
      · have a : getN (p :: r) k' = getN r k' := by unfold getN; rw [List.find?_cons_of_neg (by simpa using h)]
        have b : getN ((if p.1.nk = some k then (p.1, d) else p) :: r.map fun p => if p.1.nk = some k then (p.1, d) else p) k' = getN (r.map fun p => if p.1.nk = some k then (p.1, d) else p) k' := by
          unfold getN
          rw [List.find?_cons_of_neg]
          split <;> simpa using h
        rw [a, b, ih]
  have gsnoc : ∀ kvs : List (D × D), getN (kvs ++ [(dk, d)]) k' = (getN kvs k').or (if k' = k then some d else none) := by
    intro kvs
    induction kvs with
    | nil =>
      by_cases e : k' = k
      · subst e; simp [getN, hk]
      · have : ¬ dk.nk = some k' := by rw [hk]; simpa using fun z => e z.symm
        simp [getN, this, e]
    | cons p r ih =>
      by_cases h : p.1.nk = some k'
      · simp [getN, h]
      · have a : getN ((p :: r) ++ [(dk, d)]) k' = getN (r ++ [(dk, d)]) k' := by unfold getN; rw [List.cons_append, List.find?_cons_of_neg (by simpa using h)]
        have b : getN (p :: r) k' = getN r k' := by unfold getN; rw [List.find?_cons_of_neg (by simpa using h)]
        rw [a, b, ih]
  unfold putN
  by_cases q : (getN kvs k).isSome = true
  · rw [if_pos q, gmap]
    by_cases e : k' = k
    · subst e
      obtain ⟨x, hx⟩ := Option.isSome_iff_exists.mp q
      simp [hx]
    · simp [e]
  · rw [if_neg q, gsnoc]
    by_cases e : k' = k
    · subst e
      have : getN kvs k' = none := by simpa using q
      simp [this]
    · simp [e]
theorem putN_len (kvs : List (D × D)) (dk d : D) (k : NestedKey) : (putN kvs dk k d).length ≤ kvs.length + 1 := by
  unfold putN
  split
  · rw [List.length_map]; omega
  · rw [List.length_append]; exact Nat.le_refl _
theorem putN_len_old {kvs : List (D × D)} {dk d x : D} {k : NestedKey} (h : getN kvs k = some x) : (putN kvs dk k d).length = kvs.length := by
  unfold putN
  rw [h]; simp
theorem putD_len_old {kvs : List (Key × D)} {d x : D} {k : Key} (h : getD' kvs k = some x) : (putD kvs k d).length = kvs.length := by
  have anyS : ∀ kvs : List (Key × D), (kvs.any fun kv => decide (kv.1 = k)) = (getD' kvs k).isSome := by
    intro kvs
    induction kvs with
    | nil => rfl
    | cons p r ih =>
      rw [List.any_cons, ih]
      by_cases e : p.1 = k
      · simp [getD', List.find?_cons, e]
      · have b : getD' (p :: r) k = getD' r k := by simp [getD', List.find?_cons, e]
        rw [b]; simp [e]
  unfold putD
  rw [anyS, h]; simp
namespace K28
open PyProof.Rows (b2i)

/-! ### the first of all pairs -/
structure Fst2 (P : List Int → List Int → Prop) (os ns : List (List Int)) (i j : Nat) (o n : List Int) : Prop where
  io : os[i]? = some o
  jn : ns[j]? = some n
  p : P o n
  fo : ∀ (i' : Nat) (o' : List Int), i' < i → os[i']? = some o' → ∀ n' ∈ ns, ¬ P o' n'
  fn : ∀ (j' : Nat) (n' : List Int), j' < j → ns[j']? = some n' → ¬ P o n'
theorem Fst2.uniq {P : List Int → List Int → Prop} {os ns : List (List Int)} {i j i' j' : Nat} {o n o' n' : List Int} (a : Fst2 P os ns i j o n) (b : Fst2 P os ns i' j' o' n') : o = o' ∧ n = n' := by
  have ei : i = i' := by
    rcases Nat.lt_trichotomy i i' with h | h | h
    · exact absurd a.p (b.fo i o h a.io n (List.mem_of_getElem? a.jn))
    · exact h
    · exact absurd b.p (a.fo i' o' h b.io n' (List.mem_of_getElem? b.jn))
  subst ei
  have eo : o = o' := Option.some.inj (a.io.symm.trans b.io)
  subst eo
  have ej : j = j' := by
    rcases Nat.lt_trichotomy j j' with h | h | h
    · exact absurd a.p (b.fn j n h a.jn)
    · exact h
    · exact absurd b.p (a.fn j' n' h b.jn)
  subst ej
  exact ⟨rfl, Option.some.inj (a.jn.symm.trans b.jn)⟩
structure Fst3 (P : List Int → Nat → List Int → Prop) (os ns : List (List Int)) (i j k : Nat) (o n : List Int) : Prop where
  io : os[i]? = some o
  jn : ns[j]? = some n
  hk : k < o.length
  p : P o k n
  fo : ∀ (i' : Nat) (o' : List Int), i' < i → os[i']? = some o' → ∀ n' ∈ ns, ∀ k' < o'.length, ¬ P o' k' n'
  fn : ∀ (j' : Nat) (n' : List Int), j' < j → ns[j']? = some n' → ∀ k' < o.length, ¬ P o k' n'
  fk : ∀ k' < k, ¬ P o k' n
theorem Fst3.uniq {P : List Int → Nat → List Int → Prop} {os ns : List (List Int)} {i j k i' j' k' : Nat} {o n o' n' : List Int} (a : Fst3 P os ns i j k o n) (b : Fst3 P os ns i' j' k' o' n') : o = o' ∧ n = n' ∧ k = k' := by
  have ei : i = i' := by
    rcases Nat.lt_trichotomy i i' with h | h | h
    · exact absurd a.p (b.fo i o h a.io n (List.mem_of_getElem? a.jn) k a.hk)
    · exact h
    · exact absurd b.p (a.fo i' o' h b.io n' (List.mem_of_getElem? b.jn) k' b.hk)
  subst ei
  have eo : o = o' := Option.some.inj (a.io.symm.trans b.io)
  subst eo
  have ej : j = j' := by
    rcases Nat.lt_trichotomy j j' with h | h | h
    · exact absurd a.p (b.fn j n h a.jn k a.hk)
    · exact h
    · exact absurd b.p (a.fn j' n' h b.jn k' b.hk)
  subst ej
  have en : n = n' := Option.some.inj (a.jn.symm.trans b.jn)
  subst en
  refine ⟨rfl, rfl, ?_⟩
  rcases Nat.lt_trichotomy k k' with h | h | h
  · exact absurd a.p (b.fk k h)
  · exact h
  · exact absurd b.p (a.fk k' h)
/-- the item at place k parts the two rows -/
def Prt (f : Fm) (old : List Int) (k : Nat) (new : List Int) : Prop := ∃ j, j < new.length ∧ ¬ ((ids f new)[j]? = (ids f old)[k]? ↔ new[j]? = old[k]?)
theorem unl_iff {f : Fm} {old new : List Int} : Unl f old new ↔ ∃ k, k < old.length ∧ Prt f old k new := by
  constructor
  · rintro ⟨i, j, hi, hj, h⟩
    refine ⟨i, hi, j, hj, fun z => h ?_⟩
    rw [List.getElem?_eq_getElem hi, List.getElem?_eq_getElem hj] at z
    exact ⟨fun q => (Option.some.inj (z.mp q.symm)).symm, fun q => (z.mpr (by rw [q])).symm⟩
  · rintro ⟨i, hi, j, hj, h⟩
    refine ⟨i, j, hi, hj, fun z => h ?_⟩
    rw [List.getElem?_eq_getElem hi, List.getElem?_eq_getElem hj]
    exact ⟨fun q => by rw [z.mp q.symm], fun q => (z.mpr (Option.some.inj q).symm).symm⟩
theorem Fst3.two {f : Fm} {os ns : List (List Int)} {i j k : Nat} {o n : List Int} (a : Fst3 (Prt f) os ns i j k o n) : Fst2 (Unl f) os ns i j o n :=
  ⟨a.io, a.jn, unl_iff.mpr ⟨k, a.hk, a.p⟩, fun i' o' h e n' hn z => by obtain ⟨k', hk, z⟩ := unl_iff.mp z; exact a.fo i' o' h e n' hn k' hk z, fun j' n' h e z => by obtain ⟨k', hk, z⟩ := unl_iff.mp z; exact a.fn j' n' h e k' hk z⟩
theorem map_getS {α : Type} {g : α → D} {l : List α} {i : Nat} {d : D} (h : (l.map g)[i]? = some d) : ∃ a, l[i]? = some a ∧ d = g a := by
  obtain ⟨hi, e⟩ := map_getD h
  exact ⟨l[i], List.getElem?_eq_getElem hi, e⟩

/-! ### the program's searches -/
def sp_first_going_wrong (A : Ad) : S3 := fun ds QR _ => ∃ (f : Fm) (os ns : List (List Int)), ds = [.lst (os.map (rwD f)), .lst (ns.map (rwD f))] ∧ (∀ r ∈ os, Row r) ∧ (∀ r ∈ ns, Row r) ∧
  ((∀ o ∈ os, ∀ n ∈ ns, ¬ Unl f o n) → QR .non ds) ∧ (∀ i j o n, Fst2 (Unl f) os ns i j o n → QR (.tup [rowD o, rowD n]) ds)
def b_first_going_wrong_l1l2 (A : Ad) : T3S := (sIf (fTru (eCall [.shr, .shr, .shr, .shr] (sp_goes_wrong A) (aCons (eVar 2) (aCons (eVar 3) (aCons (eVar 4) (aCons (eVar 5) aNil))))))
 (sRet (eTup (aCons (eVar 2) (aCons (eVar 4) aNil))))
 sNext)
def b_first_going_wrong_l1 (A : Ad) : T3S := (sFor (iS (eVar 1)) (gT 2 (fun xs ρ Q => match xs with | x :: r => (gN 4) x ρ fun ρ1 => (fun xs ρ Q => match xs with | x :: r => (gN 5) x ρ fun ρ1 => (fun xs ρ Q => xs = [] ∧ Q ρ) r ρ1 Q | [] => False) r ρ1 Q | [] => False))
 (b_first_going_wrong_l1l2 A))
def b_first_going_wrong_t1 (A : Ad) : T3S := (sRet (eC .non))
def b_first_going_wrong (A : Ad) : T3S := (sSeq (sFor (iS (eVar 0)) (gT 2 (fun xs ρ Q => match xs with | x :: r => (gN 2) x ρ fun ρ1 => (fun xs ρ Q => match xs with | x :: r => (gN 3) x ρ fun ρ1 => (fun xs ρ Q => xs = [] ∧ Q ρ) r ρ1 Q | [] => False) r ρ1 Q | [] => False))
 (b_first_going_wrong_l1 A))
 (b_first_going_wrong_t1 A))
theorem t_first_going_wrong (A : Ad) : ∀ ds QR QO, sp_first_going_wrong A ds QR QO → ds.length = 2 → b_first_going_wrong A (endE [.brw, .brw] ds QR QO) (startE 4 [.brw, .brw] ds) := by
  rintro ds QR QO ⟨f, os, ns, rfl, hr, hr2, hy, hno⟩ _
  show b_first_going_wrong A _ [.brw (.lst (os.map (rwD f))), .brw (.lst (ns.map (rwD f))), .emp, .emp, .emp, .emp]
  refine for_inv (fun i ρ => ∃ s2 s3 s4 s5, s2.locked = false ∧ s3.locked = false ∧ s4.locked = false ∧ s5.locked = false ∧ (∀ (i' : Nat) (o' : List Int), i' < i → os[i']? = some o' → ∀ n' ∈ ns, ¬ Unl f o' n') ∧ ρ = [.brw (.lst (os.map (rwD f))), .brw (.lst (ns.map (rwD f))), s2, s3, s4, s5]) _ ?_ ?_ ⟨.emp, .emp, .emp, .emp, rfl, rfl, rfl, rfl, fun _ _ h => absurd h (Nat.not_lt_zero _), rfl⟩
  · rintro i d ρ N hd ⟨s2, s3, s4, s5, h2, h3, h4, h5, inv, rfl⟩ hN
    obtain ⟨o, ho, rfl⟩ := map_getS hd
    refine ⟨rfl, unF h2, unF h3, rfl, ?_⟩
    show b_first_going_wrong_l1 A { nx := N, rt := _, ro := _, bk := _, ct := N } [.brw (.lst (os.map (rwD f))), .brw (.lst (ns.map (rwD f))), .shr (rowD o), .shr (.tup (psD (ids f o))), s4, s5]
    refine for_inv (fun j ρ => ∃ s4 s5, s4.locked = false ∧ s5.locked = false ∧ (∀ (j' : Nat) (n' : List Int), j' < j → ns[j']? = some n' → ¬ Unl f o n') ∧ ρ = [.brw (.lst (os.map (rwD f))), .brw (.lst (ns.map (rwD f))), .shr (rowD o), .shr (.tup (psD (ids f o))), s4, s5]) _ ?_ ?_ ⟨s4, s5, h4, h5, fun _ _ h => absurd h (Nat.not_lt_zero _), rfl⟩
    · rintro j d ρ N2 hd ⟨s4, s5, h4, h5, inv2, rfl⟩ hN2
      obtain ⟨n, hn, rfl⟩ := map_getS hd
      refine ⟨rfl, unF h4, unF h5, rfl, ?_⟩
      show b_first_going_wrong_l1l2 A { nx := N2, rt := _, ro := _, bk := _, ct := N2 } [.brw (.lst (os.map (rwD f))), .brw (.lst (ns.map (rwD f))), .shr (rowD o), .shr (.tup (psD (ids f o))), .shr (rowD n), .shr (.tup (psD (ids f n)))]
      refine ⟨rfl, f, o, n, rfl, hr _ (List.mem_of_getElem? ho), hr2 _ (List.mem_of_getElem? hn), fun b hb => ?_⟩
      refine ifs (fun z => ?_) fun z => hN2 _ ⟨.shr (rowD n), .shr (.tup (psD (ids f n))), rfl, rfl, fun j' n' hj en => ?_, rfl⟩
      · exact ⟨sz _ rfl, trivial, trivial, hno i j o n ⟨ho, hn, hb.mp z, inv, inv2⟩⟩
      · by_cases e : j' = j
        · subst e
          rw [hn] at en; cases en
          exact fun q => z (hb.mpr q)
        · exact inv2 j' n' (by omega) en
    · rintro ρ ⟨s4, s5, h4, h5, inv2, rfl⟩
      rw [List.length_map] at inv2
      refine ⟨trivial, hN _ ⟨.shr (rowD o), .shr (.tup (psD (ids f o))), s4, s5, rfl, rfl, h4, h5, fun i' o' hi eo => ?_, rfl⟩⟩
      by_cases e : i' = i
      · subst e
        rw [ho] at eo; cases eo
        intro n' hn'
        obtain ⟨j', en'⟩ := List.mem_iff_getElem?.mp hn'
        exact inv2 j' n' (List.getElem?_eq_some_iff.mp en').1 en'
      · exact inv i' o' (by omega) eo
  · rintro ρ ⟨s2, s3, s4, s5, h2, h3, h4, h5, inv, rfl⟩
    rw [List.length_map] at inv
    refine ⟨trivial, hy fun o ho n hn => ?_⟩
    obtain ⟨i', eo⟩ := List.mem_iff_getElem?.mp ho
    exact inv i' o (List.getElem?_eq_some_iff.mp eo).1 eo n hn
def sp_faithful (A : Ad) : S3 := fun ds QR _ => ∃ (f : Fm) (rows : List (List Int)), ds = [kD A f, .tup (rsD rows)] ∧ f.dep ≤ 7 ∧ (∀ r ∈ rows, Row r) ∧ rows.length ≤ 100000 ∧ (Faith f rows → QR .non ds) ∧ (∀ i j o n, Fst2 (Unl f) rows rows i j o n → QR (.tup [rowD o, rowD n]) ds)
def b_faithful_t1 (A : Ad) : T3S := (sRet (eCall [.brw, .brw] (sp_first_going_wrong A) (aCons (eVar 2) (aCons (eVar 2) aNil))))
def b_faithful (A : Ad) : T3S := (sSeq (sAsg (eShr (oLc (iS (eVar 1)) (gN 3) fYes (eTup (aCons (eVar 3) (aCons (eMeth A.Key "idents" [.shr, .shr] (sp_Key_idents A) (eVar 0) (aCons (eVar 3) aNil)) aNil))) [3])) (gN 2))
 (b_faithful_t1 A))
theorem t_faithful (A : Ad) : ∀ ds QR QO, sp_faithful A ds QR QO → ds.length = 2 → b_faithful A (endE [.shr, .shr] ds QR QO) (startE 2 [.shr, .shr] ds) := by
  rintro ds QR QO ⟨f, rows, rfl, hf, hm, hl, hy, hno⟩ _
  refine lc_of (ρ := [.shr (kD A f), .shr (.tup (rsD rows)), .emp, .emp]) rows rowD (fun r => some (rwD f r)) rfl rfl (by rw [sizeLine_eq]; omega) (fun r hr acc N hl hN => ?_) ⟨trivial, rfl, ?_⟩
  · exact ⟨rfl, ⟨rfl, rfl⟩, rfl, f, r, rfl, hf, hm r hr, sz _ rfl, hl, hN⟩
  · rw [fm_all]
    show b_faithful_t1 A _ [.shr (kD A f), .shr (.tup (rsD rows)), .shr (.lst (rows.map (rwD f))), .emp]
    exact ⟨rfl, f, rows, rows, rfl, hm, hm, fun q => hy q, fun i j o n q => hno i j o n q⟩

/-! ### Known -/
def pk (p : Int × Int) : NestedKey := .tup [.num p.1, .num p.2]
theorem pk_nk (p : Int × Int) : (pD p).nk = some (pk p) := by simp [pD, pk, D.nk, D.nks]
theorem pk_depth (p : Int × Int) : (pk p).depth ≤ 8 := by
  show 1 ≤ 8
  decide
theorem pk_inj {p q : Int × Int} (h : pk p = pk q) : p = q := by
  obtain ⟨a, b⟩ := p
  obtain ⟨c, d⟩ := q
  simp only [pk, NestedKey.tup.injEq, List.cons.injEq, NestedKey.num.injEq] at h
  rw [h.1, h.2.1]
theorem wkey_p {ρ : En} {p : Int × Int} {k : D → NestedKey → Prop} (h : k (pD p) (pk p)) : wkey (.val (pD p)) ρ k := by
  have e : D.nk (.tup [.int p.1, .int p.2]) = some (pk p) := pk_nk p
  show wo (D.nk (.tup [.int p.1, .int p.2])) fun j => j.depth ≤ 8 ∧ k (.tup [.int p.1, .int p.2]) j
  rw [e]
  exact ⟨pk_depth p, h⟩
theorem sz' (n : Nat) (h : Nat.ble (n + 1) 1000 = true) : n < 1000 := Nat.le_of_ble_eq_true h
structure KN (ps : List (Int × Int)) (g : Int × Int → Int) (kvs : List (D × D)) : Prop where
  at_ : ∀ p, getN kvs (pk p) = if p ∈ ps then some (.int (g p)) else none
  len : kvs.length ≤ 100
def knD (A : Ad) (f : Fm) (r : List Int) (b : Addr) (kvs : List (D × D)) : D := .obj A.Known [("key", kD A f), ("row", rowD r), ("known_by", .tup (psD (ids f r))), ("numbers", .bx b (.din A.w kvs))]
def sp_Known___init__ (A : Ad) : S3 := fun ds QR _ => ∃ (f : Fm) (r : List Int), ds = [.obj A.Known [], kD A f, rowD r] ∧ f.dep ≤ 7 ∧ Row r ∧ ∀ b kvs, KN (ids f r) (fun _ => 0) kvs → QR .non [knD A f r b kvs, kD A f, rowD r]
def b_Known___init___l1 (A : Ad) : T3S := (sNPutD A.w (eC (.int 0)) (eFldB A.Known "numbers" (eVar 0)) (eVar 3))
def b_Known___init___t4 (A : Ad) : T3S := (sFor (iS (eFld A.Known "known_by" (eVar 0))) (gN 3)
 (b_Known___init___l1 A))
def b_Known___init___t3 (A : Ad) : T3S := (sSeq (sFldN A.Known "numbers" (oDicN A.w) (eVar 0))
 (b_Known___init___t4 A))
def b_Known___init___t2 (A : Ad) : T3S := (sSeq (sFldX A.Known "known_by" (eMeth A.Key "idents" [.shr, .shr] (sp_Key_idents A) (eVar 1) (aCons (eVar 2) aNil)) (eVar 0))
 (b_Known___init___t3 A))
def b_Known___init___t1 (A : Ad) : T3S := (sSeq (sFldX A.Known "row" (eVar 2) (eVar 0))
 (b_Known___init___t2 A))
def b_Known___init__ (A : Ad) : T3S := (sSeq (sFldX A.Known "key" (eVar 1) (eVar 0))
 (b_Known___init___t1 A))
theorem ids_le {f : Fm} {r : List Int} (h : Row r) : (ids f r).length ≤ 5 := by rw [ids_len]; exact h.len
theorem mem_take_succ {α : Type} {l : List α} {i : Nat} {x y : α} (h : l[i]? = some y) : x ∈ l.take (i + 1) ↔ x ∈ l.take i ∨ x = y := by
  rw [List.take_add_one, h]; simp
theorem t_Known___init__ (A : Ad) : ∀ ds QR QO, sp_Known___init__ A ds QR QO → ds.length = 3 → b_Known___init__ A (endE [.pab, .shr, .shr] ds QR QO) (startE 1 [.pab, .shr, .shr] ds) := by
  rintro ds QR QO ⟨f, r, rfl, hf, hr, h⟩ _
  refine ⟨rfl, sz' _ rfl, ?_⟩
  show b_Known___init___t1 A _ [.pab (.obj A.Known [("key", kD A f)]), .shr (kD A f), .shr (rowD r), .emp]
  refine ⟨rfl, sz' _ rfl, ?_⟩
  show b_Known___init___t2 A _ [.pab (.obj A.Known [("key", kD A f), ("row", rowD r)]), .shr (kD A f), .shr (rowD r), .emp]
  refine ⟨⟨rfl, rfl⟩, rfl, f, r, rfl, hf, hr, rfl, sz' _ rfl, ?_⟩
  show b_Known___init___t3 A _ [.pab (.obj A.Known [("key", kD A f), ("row", rowD r), ("known_by", .tup (psD (ids f r)))]), .shr (kD A f), .shr (rowD r), .emp]
  refine fun b => ⟨rfl, sz' _ rfl, ?_⟩
  show b_Known___init___t4 A _ [.pab (knD A f r b []), .shr (kD A f), .shr (rowD r), .emp]
  have hl5 := ids_le (f := f) hr
  refine ⟨rfl, rfl, ?_⟩
  refine for_inv (fun i ρ => ∃ kvs s3, s3.locked = false ∧ KN ((ids f r).take i) (fun _ => 0) kvs ∧ kvs.length ≤ i ∧ ρ = [.pab (knD A f r b kvs), .shr (kD A f), .shr (rowD r), s3]) _ ?_ ?_ ⟨[], .emp, rfl, ⟨fun p => by simp [getN], Nat.zero_le _⟩, Nat.le_refl _, rfl⟩
  · rintro i d ρ N hd ⟨kvs, s3, h3, kn, hl, rfl⟩ hN
    obtain ⟨p, hp, rfl⟩ := map_getS hd
    have hi := (List.getElem?_eq_some_iff.mp hp).1
    refine ⟨unF h3, ?_⟩
    show b_Known___init___l1 A { nx := N, rt := _, ro := _, bk := _, ct := N } [.pab (knD A f r b kvs), .shr (kD A f), .shr (rowD r), .shr (pD p)]
    have pl := putN_len kvs (pD p) (.int 0) (pk p)
    refine ⟨rfl, pk_depth p, rfl, rfl, by rw [sizeLine_eq]; omega, hN _ ⟨putN kvs (pD p) (pk p) (.int 0), .shr (pD p), rfl, ⟨fun q => ?_, by omega⟩, by omega, rfl⟩⟩
    rw [getN_put (pk_nk p), kn.at_ q]
    by_cases e : q = p
    · subst e
      rw [if_pos rfl, if_pos ((mem_take_succ hp).mpr (.inr rfl))]
    · rw [if_neg fun z => e (pk_inj z)]
      by_cases m : q ∈ (ids f r).take i
      · rw [if_pos m, if_pos ((mem_take_succ hp).mpr (.inl m))]
      · rw [if_neg m, if_neg fun z => ((mem_take_succ hp).mp z).elim m e]
  · rintro ρ ⟨kvs, s3, h3, kn, hl, rfl⟩
    have e : (psD (ids f r)).length = (ids f r).length := psD_len _
    have kn : KN ((ids f r).take (psD (ids f r)).length) (fun _ => 0) kvs := kn
    rw [e, List.take_length] at kn
    exact ⟨trivial, h b kvs kn⟩
theorem row_in {r : List Int} {k : Nat} {x : Int} (h : r[k]? = some x) : ((iD r).any fun z => D.eqv z (.int x)) = true := by
  rw [any_int, decide_eq_true_eq]; exact List.mem_of_getElem? h
/-- row.index(x) -/
theorem idx_row {r : List Int} (nd : r.Nodup) {k : Nat} {x : Int} (h : r[k]? = some x) : ((iD r).findIdx? fun z => D.eqv z (.int x)) = some k := by
  obtain ⟨hk, e⟩ := List.getElem?_eq_some_iff.mp h
  rw [List.findIdx?_eq_some_iff_getElem]
  refine ⟨by rw [iD_len]; exact hk, ?_, fun j hj => ?_⟩
  · have : (iD r)[k]'(by rw [iD_len]; exact hk) = .int x := by
      have := iD_get hk
      rw [List.getElem?_eq_getElem (by rw [iD_len]; exact hk)] at this
      rw [Option.some.inj this, e]
    rw [this, eqi', decide_eq_true_eq]
  · have hj' : j < r.length := by omega
    have : (iD r)[j]'(by rw [iD_len]; exact hj') = .int r[j] := by
      have := iD_get hj'
      rw [List.getElem?_eq_getElem (by rw [iD_len]; exact hj')] at this
      exact Option.some.inj this
    rw [this, eqi', decide_eq_true_eq, ← e]
    intro z
    have := (nd_inj nd hj' hk).mp z
    omega
def sp_Known___getitem__ (A : Ad) : S3 := fun ds QR _ => ∃ (f : Fm) (r : List Int) (b : Addr) (kvs : List (D × D)) (g : Int × Int → Int) (k : Nat) (x : Int) (p : Int × Int), ds = [knD A f r b kvs, .int x] ∧ KN (ids f r) g kvs ∧ Row r ∧ r[k]? = some x ∧ (ids f r)[k]? = some p ∧ QR (.int (g p)) ds
def b_Known___getitem___t1 (A : Ad) : T3S := (sRet (eNGet A.w (eFldB A.Known "numbers" (eVar 0)) (eOp oIdx (eFld A.Known "known_by" (eVar 0)) (eTIdx (eFld A.Known "row" (eVar 0)) (aCons (eVar 1) aNil)))))
def b_Known___getitem__ (A : Ad) : T3S := (sSeq (sIf (fOr (fTru (eCB cIsi (aCons (eVar 1) (aCons (eC (.ty "bool")) aNil)))) (fTst (eOp (oIn true) (eVar 1) (eFld A.Known "row" (eVar 0)))))
 sNever
 sNext)
 (b_Known___getitem___t1 A))
theorem t_Known___getitem__ (A : Ad) : ∀ ds QR QO, sp_Known___getitem__ A ds QR QO → ds.length = 2 → b_Known___getitem__ A (endE [.brw, .shr] ds QR QO) (startE 0 [.brw, .shr] ds) := by
  rintro ds QR QO ⟨f, r, b, kvs, g, k, x, p, rfl, kn, hr, hx, hp, h⟩ _
  refine ⟨rfl, rfl, rfl, rfl, (iD_shp r).2, ?_⟩
  show if (!((iD r).any fun z => D.eqv z (.int x))) = true then _ else _
  rw [row_in hx]
  show b_Known___getitem___t1 A _ [.brw (knD A f r b kvs), .shr (.int x)]
  refine ⟨rfl, rfl, rfl, rfl, rfl, ⟨(iD_shp r).2, rfl⟩, ?_⟩
  refine wo_in (idx_row hr.nd hx) ?_
  have ek : L2.atI (psD (ids f r)) (k : Int) = some (pD p) := atI_nat (by unfold psD; rw [List.getElem?_map, hp]; rfl)
  refine wo_in ek (wd_bx (b := b) (d := .din A.w kvs) rfl ⟨rfl, pk_depth p, ?_⟩)
  have eg : getN kvs (pk p) = some (.int (g p)) := by rw [kn.at_, if_pos (List.mem_of_getElem? hp)]
  exact wo_in eg h
end K28
end L3

set_option pp.maxSteps 3000
set_option Elab.async false
set_option linter.all false
set_option maxRecDepth 100000
set_option autoImplicit false
set_option maxHeartbeats 0
namespace L3
open PySem PySem.Spec L2
theorem wdn_bx {w : World} {ρ : En} {i : Nat} {f : Str} {b : Addr} {kvs : List (D × D)} {y : Rs} {k : List (D × D) → D → NestedKey → Prop} (h : boxOf ρ i f = some (b, .din w kvs)) (hk : wkey y ρ fun dy j => k kvs dy j) : wdn w (.bx i f b) y ρ k := by
  unfold wdn
  exact wd_bx h ⟨rfl, hk⟩
namespace K28
open PyProof.Rows (b2i)
theorem nd_at {r : List Int} (nd : r.Nodup) {j k : Nat} {x : Int} (h1 : r[j]? = some x) (h2 : r[k]? = some x) : j = k := by
  obtain ⟨a, e1⟩ := List.getElem?_eq_some_iff.mp h1
  obtain ⟨b, e2⟩ := List.getElem?_eq_some_iff.mp h2
  exact (nd_inj nd a b).mp (e1.trans e2.symm)
theorem ids_nd (f : Fm) (r : List Int) : (ids f r).Nodup := prG_nd _ _
theorem ids_at {f : Fm} {r : List Int} {k : Nat} {x : Int} (h : r[k]? = some x) : ∃ p, (ids f r)[k]? = some p := by
  have := (List.getElem?_eq_some_iff.mp h).1
  exact ⟨_, List.getElem?_eq_getElem (by rw [ids_len]; exact this)⟩
theorem psD_get {ps : List (Int × Int)} {k : Nat} {p : Int × Int} (h : ps[k]? = some p) : L2.atI (psD ps) (k : Int) = some (pD p) := atI_nat (by unfold psD; rw [List.getElem?_map, h]; rfl)
def sp_Known___setitem__ (A : Ad) : S3 := fun ds QR _ => ∃ (f : Fm) (r : List Int) (b : Addr) (kvs : List (D × D)) (g : Int × Int → Int) (k : Nat) (x v : Int) (p : Int × Int), ds = [knD A f r b kvs, .int x, .int v] ∧ KN (ids f r) g kvs ∧ Row r ∧ r[k]? = some x ∧ (ids f r)[k]? = some p ∧
  ∀ kvs', KN (ids f r) (fun q => if q = p then v else g q) kvs' → QR .non [knD A f r b kvs', .int x, .int v]
def b_Known___setitem___t1 (A : Ad) : T3S := (sNPutD A.w (eVar 2) (eFldB A.Known "numbers" (eVar 0)) (eOp oIdx (eFld A.Known "known_by" (eVar 0)) (eTIdx (eFld A.Known "row" (eVar 0)) (aCons (eVar 1) aNil))))
def b_Known___setitem__ (A : Ad) : T3S := (sSeq (sIf (fOr (fTru (eCB cIsi (aCons (eVar 1) (aCons (eC (.ty "bool")) aNil)))) (fTst (eOp (oIn true) (eVar 1) (eFld A.Known "row" (eVar 0)))))
 sNever
 sNext)
 (b_Known___setitem___t1 A))
theorem t_Known___setitem__ (A : Ad) : ∀ ds QR QO, sp_Known___setitem__ A ds QR QO → ds.length = 3 → b_Known___setitem__ A (endE [.pab, .shr, .shr] ds QR QO) (startE 0 [.pab, .shr, .shr] ds) := by
  rintro ds QR QO ⟨f, r, b, kvs, g, k, x, v, p, rfl, kn, hr, hx, hp, h⟩ _
  refine ⟨rfl, rfl, rfl, rfl, (iD_shp r).2, ?_⟩
  show if (!((iD r).any fun z => D.eqv z (.int x))) = true then _ else _
  rw [row_in hx]
  show b_Known___setitem___t1 A _ [.pab (knD A f r b kvs), .shr (.int x), .shr (.int v)]
  refine ⟨rfl, rfl, rfl, rfl, rfl, ⟨(iD_shp r).2, rfl⟩, ?_⟩
  refine wo_in (idx_row hr.nd hx) ?_
  have eg : getN kvs (pk p) = some (.int (g p)) := by rw [kn.at_, if_pos (List.mem_of_getElem? hp)]
  have pl := kn.len
  refine wo_in (psD_get hp) ⟨pk_depth p, rfl, rfl, by rw [sizeLine_eq]; omega, ?_⟩
  refine h (putN kvs (pD p) (pk p) (.int v)) ⟨fun q => ?_, by rw [putN_len_old eg]; exact kn.len⟩
  rw [getN_put (pk_nk p), kn.at_ q]
  by_cases e : q = p
  · subst e
    rw [if_pos rfl, if_pos (List.mem_of_getElem? hp), if_pos rfl]
  · rw [if_neg fun z => e (pk_inj z), if_neg e]
def sp_Known_show (A : Ad) : S3 := fun ds QR _ => ∃ (f : Fm) (r s : List Int) (b : Addr) (kvs : List (D × D)) (g : Int × Int → Int), ds = [knD A f r b kvs, rowD s] ∧ f.dep ≤ 7 ∧ KN (ids f r) g kvs ∧ Row s ∧
  ∀ b' kvs', KN (ids f s) (fun q => if q ∈ ids f r then g q else 0) kvs' → QR .non [knD A f s b' kvs', rowD s]
def b_Known_show_l1 (A : Ad) : T3S := (sNPutD A.w (eNG2 A.w (eFldB A.Known "numbers" (eVar 0)) (eVar 4) (eC (.int 0))) (eVar 3) (eVar 4))
def b_Known_show_t5 (A : Ad) : T3S := (sFldM A.Known "numbers" 3 (eVar 0))
def b_Known_show_t4 (A : Ad) : T3S := (sSeq (sFldX A.Known "known_by" (eVar 2) (eVar 0))
 (b_Known_show_t5 A))
def b_Known_show_t3 (A : Ad) : T3S := (sSeq (sFldX A.Known "row" (eVar 1) (eVar 0))
 (b_Known_show_t4 A))
def b_Known_show_t2 (A : Ad) : T3S := (sSeq (sFor (iS (eVar 2)) (gN 4)
 (b_Known_show_l1 A))
 (b_Known_show_t3 A))
def b_Known_show_t1 (A : Ad) : T3S := (sSeq (sAsgO (oDicN A.w) 3)
 (b_Known_show_t2 A))
def b_Known_show (A : Ad) : T3S := (sSeq (sAsg (eMeth A.Key "idents" [.shr, .shr] (sp_Key_idents A) (eFld A.Known "key" (eVar 0)) (aCons (eVar 1) aNil)) (gN 2))
 (b_Known_show_t1 A))
theorem t_Known_show (A : Ad) : ∀ ds QR QO, sp_Known_show A ds QR QO → ds.length = 2 → b_Known_show A (endE [.pab, .shr] ds QR QO) (startE 3 [.pab, .shr] ds) := by
  rintro ds QR QO ⟨f, r, s, b, kvs, g, rfl, hf, kn, hr, h⟩ _
  refine ⟨rfl, rfl, ⟨rfl, rfl⟩, rfl, f, s, rfl, hf, hr, rfl, rfl, ?_⟩
  have hl5 := ids_le (f := f) hr
  refine for_inv (fun i ρ => ∃ kvs2 s4, s4.locked = false ∧ KN ((ids f s).take i) (fun q => if q ∈ ids f r then g q else 0) kvs2 ∧ kvs2.length ≤ i ∧ ρ = [.pab (knD A f r b kvs), .shr (rowD s), .shr (.tup (psD (ids f s))), .own (.din A.w kvs2), s4]) _ ?_ ?_ ⟨[], .emp, rfl, ⟨fun p => by simp [getN], Nat.zero_le _⟩, Nat.le_refl _, rfl⟩
  · rintro i d ρ N hd ⟨kvs2, s4, h4, kn2, hl, rfl⟩ hN
    obtain ⟨p, hp, rfl⟩ := map_getS hd
    have hi := (List.getElem?_eq_some_iff.mp hp).1
    refine ⟨unF h4, rfl, ?_⟩
    refine wd_bx (b := b) (d := .din A.w kvs) rfl ⟨rfl, ?_⟩
    refine wdn_bx (b := b) (kvs := kvs) rfl ⟨pk_depth p, ?_⟩
    have eg : (getN kvs (pk p)).getD (.int 0) = .int (if p ∈ ids f r then g p else 0) := by
      rw [kn.at_]; split <;> rfl
    have pl := putN_len kvs2 (pD p) (.int (if p ∈ ids f r then g p else 0)) (pk p)
    refine ⟨pk_depth p, rfl, by rw [sizeLine_eq]; omega, ?_⟩
    refine hN _ ⟨putN kvs2 (pD p) (pk p) (.int (if p ∈ ids f r then g p else 0)), .shr (pD p), rfl, ⟨fun q => ?_, by omega⟩, by omega, ?_⟩
    · rw [getN_put (pk_nk p), kn2.at_ q]
      by_cases e : q = p
      · subst e
        rw [if_pos rfl, if_pos ((mem_take_succ hp).mpr (.inr rfl))]
      · rw [if_neg fun z => e (pk_inj z)]
        by_cases m : q ∈ (ids f s).take i
        · rw [if_pos m, if_pos ((mem_take_succ hp).mpr (.inl m))]
        · rw [if_neg m, if_neg fun z => ((mem_take_succ hp).mp z).elim m e]
    · rw [← eg]; rfl
  · rintro ρ ⟨kvs2, s4, h4, kn2, hl, rfl⟩
    have e : (psD (ids f s)).length = (ids f s).length := psD_len _
    have kn2 : KN ((ids f s).take (psD (ids f s)).length) (fun q => if q ∈ ids f r then g q else 0) kvs2 := kn2
    rw [e, List.take_length] at kn2
    exact ⟨trivial, rfl, sz' _ rfl, rfl, sz' _ rfl, fun b' => ⟨rfl, sz' _ rfl, h b' kvs2 kn2⟩⟩

/-! ### Things -/
structure TN (r : List Int) (g : Int → Int) (kvs : List (Key × D)) : Prop where
  at_ : ∀ x, getD' kvs (.inl x) = if x ∈ r then some (.int (g x)) else none
  len : kvs.length ≤ 100
def thD (A : Ad) (r : List Int) (b : Addr) (kvs : List (Key × D)) : D := .obj A.Things [("row", rowD r), ("numbers", .bx b (.dic kvs))]
theorem getD_int {kvs : List (Key × D)} {x y : Int} {d : D} : getD' (putD kvs (.inl x) d) (.inl y) = if y = x then some d else getD' kvs (.inl y) := by
  rw [getD_put]; simp
def sp_Things___init__ (A : Ad) : S3 := fun ds QR _ => ∃ (r : List Int), ds = [.obj A.Things [], rowD r] ∧ Row r ∧ ∀ b kvs, TN r (fun _ => 0) kvs → QR .non [thD A r b kvs, rowD r]
def b_Things___init___l1 (A : Ad) : T3S := (sDPutD (eC (.int 0)) (eFldB A.Things "numbers" (eVar 0)) (eVar 2))
def b_Things___init___t3 (A : Ad) : T3S := (sFor (iS (eVar 1)) (gN 2)
 (b_Things___init___l1 A))
def b_Things___init___t2 (A : Ad) : T3S := (sSeq (sFldN A.Things "numbers" oDicE (eVar 0))
 (b_Things___init___t3 A))
def b_Things___init___t1 (A : Ad) : T3S := (sSeq (sFldX A.Things "row" (eVar 1) (eVar 0))
 (b_Things___init___t2 A))
def b_Things___init__ (A : Ad) : T3S := (sSeq (sDrop (eCall [.shr] (sp_check_row A) (aCons (eVar 1) aNil)))
 (b_Things___init___t1 A))
theorem t_Things___init__ (A : Ad) : ∀ ds QR QO, sp_Things___init__ A ds QR QO → ds.length = 2 → b_Things___init__ A (endE [.pab, .shr] ds QR QO) (startE 1 [.pab, .shr] ds) := by
  rintro ds QR QO ⟨r, rfl, hr, h⟩ _
  refine ⟨rfl, r, rfl, hr, rfl, sz' _ rfl, fun b => ⟨rfl, sz' _ rfl, ?_⟩⟩
  have hl5 := hr.len
  refine for_inv (fun i ρ => ∃ kvs s2, s2.locked = false ∧ TN (r.take i) (fun _ => 0) kvs ∧ kvs.length ≤ i ∧ ρ = [.pab (thD A r b kvs), .shr (rowD r), s2]) _ ?_ ?_ ⟨[], .emp, rfl, ⟨fun p => by simp [getD'], Nat.zero_le _⟩, Nat.le_refl _, rfl⟩
  · rintro i d ρ N hd ⟨kvs, s2, h2, kn, hl, rfl⟩ hN
    obtain ⟨x, hx, rfl⟩ := map_getS hd
    have hi := (List.getElem?_eq_some_iff.mp hx).1
    have pl := put_len (.inl x) (.int 0) kvs
    refine ⟨unF h2, rfl, rfl, by rw [sizeLine_eq]; omega, hN _ ⟨putD kvs (.inl x) (.int 0), .shr (.int x), rfl, ⟨fun q => ?_, by omega⟩, by omega, rfl⟩⟩
    rw [getD_int, kn.at_ q]
    by_cases e : q = x
    · subst e
      rw [if_pos rfl, if_pos ((mem_take_succ hx).mpr (.inr rfl))]
    · rw [if_neg e]
      by_cases m : q ∈ r.take i
      · rw [if_pos m, if_pos ((mem_take_succ hx).mpr (.inl m))]
      · rw [if_neg m, if_neg fun z => ((mem_take_succ hx).mp z).elim m e]
  · rintro ρ ⟨kvs, s2, h2, kn, hl, rfl⟩
    have kn : TN (r.take (iD r).length) (fun _ => 0) kvs := kn
    rw [iD_len, List.take_length] at kn
    exact ⟨trivial, h b kvs kn⟩
def sp_Things___getitem__ (A : Ad) : S3 := fun ds QR _ => ∃ (r : List Int) (b : Addr) (kvs : List (Key × D)) (g : Int → Int) (k : Nat) (x : Int), ds = [thD A r b kvs, .int x] ∧ TN r g kvs ∧ r[k]? = some x ∧ QR (.int (g x)) ds
def b_Things___getitem___t1 (A : Ad) : T3S := (sRet (eDGet (eFldB A.Things "numbers" (eVar 0)) (eVar 1)))
def b_Things___getitem__ (A : Ad) : T3S := (sSeq (sIf (fOr (fTru (eCB cIsi (aCons (eVar 1) (aCons (eC (.ty "bool")) aNil)))) (fTst (eOp (oIn true) (eVar 1) (eFld A.Things "row" (eVar 0)))))
 sNever
 sNext)
 (b_Things___getitem___t1 A))
theorem t_Things___getitem__ (A : Ad) : ∀ ds QR QO, sp_Things___getitem__ A ds QR QO → ds.length = 2 → b_Things___getitem__ A (endE [.brw, .shr] ds QR QO) (startE 0 [.brw, .shr] ds) := by
  rintro ds QR QO ⟨r, b, kvs, g, k, x, rfl, kn, hx, h⟩ _
  refine ⟨rfl, rfl, rfl, rfl, (iD_shp r).2, ?_⟩
  show if (!((iD r).any fun z => D.eqv z (.int x))) = true then _ else _
  rw [row_in hx]
  have eg : getD' kvs (.inl x) = some (.int (g x)) := by rw [kn.at_, if_pos (List.mem_of_getElem? hx)]
  refine ⟨rfl, ?_⟩
  refine wd_bx (b := b) (d := .dic kvs) rfl ?_
  exact wo_in eg h
def sp_Things___setitem__ (A : Ad) : S3 := fun ds QR _ => ∃ (r : List Int) (b : Addr) (kvs : List (Key × D)) (g : Int → Int) (k : Nat) (x v : Int), ds = [thD A r b kvs, .int x, .int v] ∧ TN r g kvs ∧ r[k]? = some x ∧
  ∀ kvs', TN r (fun q => if q = x then v else g q) kvs' → QR .non [thD A r b kvs', .int x, .int v]
def b_Things___setitem___t1 (A : Ad) : T3S := (sDPutD (eVar 2) (eFldB A.Things "numbers" (eVar 0)) (eVar 1))
def b_Things___setitem__ (A : Ad) : T3S := (sSeq (sIf (fOr (fTru (eCB cIsi (aCons (eVar 1) (aCons (eC (.ty "bool")) aNil)))) (fTst (eOp (oIn true) (eVar 1) (eFld A.Things "row" (eVar 0)))))
 sNever
 sNext)
 (b_Things___setitem___t1 A))
theorem t_Things___setitem__ (A : Ad) : ∀ ds QR QO, sp_Things___setitem__ A ds QR QO → ds.length = 3 → b_Things___setitem__ A (endE [.pab, .shr, .shr] ds QR QO) (startE 0 [.pab, .shr, .shr] ds) := by
  rintro ds QR QO ⟨r, b, kvs, g, k, x, v, rfl, kn, hx, h⟩ _
  refine ⟨rfl, rfl, rfl, rfl, (iD_shp r).2, ?_⟩
  show if (!((iD r).any fun z => D.eqv z (.int x))) = true then _ else _
  rw [row_in hx]
  have eg : getD' kvs (.inl x) = some (.int (g x)) := by rw [kn.at_, if_pos (List.mem_of_getElem? hx)]
  have pl := kn.len
  refine ⟨rfl, rfl, by rw [sizeLine_eq]; omega, ?_⟩
  refine h (putD kvs (.inl x) (.int v)) ⟨fun q => ?_, by rw [putD_len_old eg]; exact kn.len⟩
  rw [getD_int, kn.at_ q]
  by_cases e : q = x
  · subst e
    rw [if_pos rfl, if_pos (List.mem_of_getElem? hx), if_pos rfl]
  · rw [if_neg e, if_neg e]
def sp_Things_show (A : Ad) : S3 := fun ds QR _ => ∃ (r s : List Int) (b : Addr) (kvs : List (Key × D)) (g : Int → Int), ds = [thD A r b kvs, rowD s] ∧ TN r g kvs ∧ Row s ∧
  ∀ b' kvs', TN s (fun q => if q ∈ r then g q else 0) kvs' → QR .non [thD A s b' kvs', rowD s]
def b_Things_show_l1 (A : Ad) : T3S := (sDPutD (eDG2 (eFldB A.Things "numbers" (eVar 0)) (eVar 3) (eC (.int 0))) (eVar 2) (eVar 3))
def b_Things_show_t4 (A : Ad) : T3S := (sFldM A.Things "numbers" 2 (eVar 0))
def b_Things_show_t3 (A : Ad) : T3S := (sSeq (sFldX A.Things "row" (eVar 1) (eVar 0))
 (b_Things_show_t4 A))
def b_Things_show_t2 (A : Ad) : T3S := (sSeq (sFor (iS (eVar 1)) (gN 3)
 (b_Things_show_l1 A))
 (b_Things_show_t3 A))
def b_Things_show_t1 (A : Ad) : T3S := (sSeq (sAsgO oDicE 2)
 (b_Things_show_t2 A))
def b_Things_show (A : Ad) : T3S := (sSeq (sDrop (eCall [.shr] (sp_check_row A) (aCons (eVar 1) aNil)))
 (b_Things_show_t1 A))
theorem t_Things_show (A : Ad) : ∀ ds QR QO, sp_Things_show A ds QR QO → ds.length = 2 → b_Things_show A (endE [.pab, .shr] ds QR QO) (startE 2 [.pab, .shr] ds) := by
  rintro ds QR QO ⟨r, s, b, kvs, g, rfl, kn, hr, h⟩ _
  refine ⟨rfl, s, rfl, hr, rfl, ?_⟩
  have hl5 := hr.len
  refine for_inv (fun i ρ => ∃ kvs2 s3, s3.locked = false ∧ TN (s.take i) (fun q => if q ∈ r then g q else 0) kvs2 ∧ kvs2.length ≤ i ∧ ρ = [.pab (thD A r b kvs), .shr (rowD s), .own (.dic kvs2), s3]) _ ?_ ?_ ⟨[], .emp, rfl, ⟨fun p => by simp [getD'], Nat.zero_le _⟩, Nat.le_refl _, rfl⟩
  · rintro i d ρ N hd ⟨kvs2, s3, h3, kn2, hl, rfl⟩ hN
    obtain ⟨x, hx, rfl⟩ := map_getS hd
    have hi := (List.getElem?_eq_some_iff.mp hx).1
    refine ⟨unF h3, rfl, ?_⟩
    refine wd_bx (b := b) (d := .dic kvs) rfl ?_
    refine wd_bx (b := b) (d := .dic kvs) rfl ?_
    have eg : (getD' kvs (.inl x)).getD (.int 0) = .int (if x ∈ r then g x else 0) := by
      rw [kn.at_]; split <;> rfl
    have pl := put_len (.inl x) (.int (if x ∈ r then g x else 0)) kvs2
    refine ⟨by rw [sizeLine_eq]; omega, ?_⟩
    refine hN _ ⟨putD kvs2 (.inl x) (.int (if x ∈ r then g x else 0)), .shr (.int x), rfl, ⟨fun q => ?_, by omega⟩, by omega, ?_⟩
    · rw [getD_int, kn2.at_ q]
      by_cases e : q = x
      · subst e
        rw [if_pos rfl, if_pos ((mem_take_succ hx).mpr (.inr rfl))]
      · rw [if_neg e]
        by_cases m : q ∈ s.take i
        · rw [if_pos m, if_pos ((mem_take_succ hx).mpr (.inl m))]
        · rw [if_neg m, if_neg fun z => ((mem_take_succ hx).mp z).elim m e]
    · rw [← eg]; rfl
  · rintro ρ ⟨kvs2, s3, h3, kn2, hl, rfl⟩
    have kn2 : TN (s.take (iD s).length) (fun q => if q ∈ r then g q else 0) kvs2 := kn2
    rw [iD_len, List.take_length] at kn2
    exact ⟨trivial, rfl, sz' _ rfl, fun b' => ⟨rfl, sz' _ rfl, h b' kvs2 kn2⟩⟩
end K28
end L3

set_option pp.maxSteps 3000
set_option Elab.async false
set_option linter.all false
set_option maxRecDepth 100000
set_option autoImplicit false
set_option maxHeartbeats 0
namespace L3
open PySem PySem.Spec L2
namespace K28
open PyProof.Rows (b2i)
/-- a row by its places -/
theorem iD_rng (n : List Int) : iD n = (List.range n.length).map fun j => D.int (n.getD j 0) := by
  apply List.ext_getElem
  · simp [iD]
  · intro i h1 h2
    have h : i < n.length := by simpa [iD] using h1
    simp [iD, h]
theorem getD_of {n : List Int} {j : Nat} (h : j < n.length) : n[j]? = some (n.getD j 0) := by
  rw [List.getElem?_eq_getElem h]; simp [h]
/-- the place j parts -/
def Pt (f : Fm) (o : List Int) (k : Nat) (n : List Int) (j : Nat) : Prop := ¬ ((ids f n)[j]? = (ids f o)[k]? ↔ n[j]? = o[k]?)
open Classical in
noncomputable def ptB (f : Fm) (o : List Int) (k : Nat) (n : List Int) (j : Nat) : Bool := decide (Pt f o k n j)
theorem ptB_iff {f : Fm} {o : List Int} {k : Nat} {n : List Int} {j : Nat} : ptB f o k n j = true ↔ Pt f o k n j := by unfold ptB; exact @decide_eq_true_iff _ (Classical.propDecidable _)
theorem prt_iff {f : Fm} {o : List Int} {k : Nat} {n : List Int} (g : Nat → D) : ((!(D.eqv (.lst (((List.range n.length).filter (ptB f o k n)).map g)) (.lst []))) = true) ↔ Prt f o k n := by
  have e : D.eqv (.lst (((List.range n.length).filter (ptB f o k n)).map g)) (.lst []) = ((List.range n.length).filter (ptB f o k n)).isEmpty := by
    cases (List.range n.length).filter (ptB f o k n) <;> simp [D.eqv, D.eqvs]
  rw [e]
  constructor
  · intro h
    cases q : (List.range n.length).filter (ptB f o k n) with
    | nil => rw [q] at h; cases h
    | cons j t =>
      have : j ∈ (List.range n.length).filter (ptB f o k n) := by rw [q]; exact List.mem_cons_self ..
      rw [List.mem_filter, List.mem_range, ptB_iff] at this
      exact ⟨j, this.1, this.2⟩
  · rintro ⟨j, hj, h⟩
    have : j ∈ (List.range n.length).filter (ptB f o k n) := by rw [List.mem_filter, List.mem_range, ptB_iff]; exact ⟨hj, h⟩
    cases q : (List.range n.length).filter (ptB f o k n) with
    | nil => rw [q] at this; cases this
    | cons => rfl
def sp_is_parting (A : Ad) : S3 := fun ds QR _ => ∃ (f : Fm) (o n : List Int) (k : Nat) (x : Int), ds = [kD A f, rowD o, .int x, rowD n] ∧ f.dep ≤ 7 ∧ Row o ∧ Row n ∧ o[k]? = some x ∧ ∀ b : Bool, (b = true ↔ Prt f o k n) → QR (.bl b) ds
def b_is_parting_t6 (A : Ad) : T3S := (sRet (eOp (oEq true) (eShr (oLc (iS (eVar 3)) (gN 6) (fTst (eOp (oEq true) (eOp (oOwnGet A.Known [.brw, .shr] (sp_Known___getitem__ A)) (eVar 4) (eVar 6)) (eOp (oOwnGet A.Things [.brw, .shr] (sp_Things___getitem__ A)) (eVar 5) (eVar 6)))) (eVar 6) [6])) (eLst aNil)))
def b_is_parting_t5 (A : Ad) : T3S := (sSeq (sMeth A.Things "show" [.pab, .shr] (sp_Things_show A) (eVar 5) (aCons (eVar 3) aNil))
 (b_is_parting_t6 A))
def b_is_parting_t4 (A : Ad) : T3S := (sSeq (sMeth A.Known "show" [.pab, .shr] (sp_Known_show A) (eVar 4) (aCons (eVar 3) aNil))
 (b_is_parting_t5 A))
def b_is_parting_t3 (A : Ad) : T3S := (sSeq (sOwnSetD A.Things [.pab, .shr, .shr] (sp_Things___setitem__ A) (eC (.int 1)) (eVar 5) (eVar 2))
 (b_is_parting_t4 A))
def b_is_parting_t2 (A : Ad) : T3S := (sSeq (sOwnSetD A.Known [.pab, .shr, .shr] (sp_Known___setitem__ A) (eC (.int 1)) (eVar 4) (eVar 2))
 (b_is_parting_t3 A))
def b_is_parting_t1 (A : Ad) : T3S := (sSeq (sAsgB (oMake A.Things [.shr] (sp_Things___init__ A) (aCons (eVar 1) aNil)) 5)
 (b_is_parting_t2 A))
def b_is_parting (A : Ad) : T3S := (sSeq (sAsgB (oMake A.Known [.shr, .shr] (sp_Known___init__ A) (aCons (eVar 0) (aCons (eVar 1) aNil))) 4)
 (b_is_parting_t1 A))
theorem t_is_parting (A : Ad) : ∀ ds QR QO, sp_is_parting A ds QR QO → ds.length = 4 → b_is_parting A (endE [.shr, .shr, .shr, .shr] ds QR QO) (startE 3 [.shr, .shr, .shr, .shr] ds) := by
  rintro ds QR QO ⟨f, o, n, k, x, rfl, hf, ho, hn, hx, h⟩ _
  obtain ⟨p, hp⟩ := ids_at (f := f) hx
  have ln := hn.len
  refine ⟨rfl, f, o, rfl, hf, ho, fun b1 kv1 k1 => ⟨rfl, rfl, ?_⟩⟩
  show b_is_parting_t1 A _ [.shr (kD A f), .shr (rowD o), .shr (.int x), .shr (rowD n), .owb (knD A f o b1 kv1), .emp, .emp]
  refine ⟨rfl, o, rfl, ho, fun b2 tv1 t1 => ⟨rfl, rfl, ?_⟩⟩
  show b_is_parting_t2 A _ [.shr (kD A f), .shr (rowD o), .shr (.int x), .shr (rowD n), .owb (knD A f o b1 kv1), .owb (thD A o b2 tv1), .emp]
  refine ⟨rfl, rfl, f, o, b1, kv1, _, k, x, 1, p, rfl, k1, ho, hx, hp, fun kv2 k2 => ?_⟩
  show b_is_parting_t3 A _ [.shr (kD A f), .shr (rowD o), .shr (.int x), .shr (rowD n), .owb (knD A f o b1 kv2), .owb (thD A o b2 tv1), .emp]
  refine ⟨rfl, rfl, o, b2, tv1, _, k, x, 1, rfl, t1, hx, fun tv2 t2 => ?_⟩
  show b_is_parting_t4 A _ [.shr (kD A f), .shr (rowD o), .shr (.int x), .shr (rowD n), .owb (knD A f o b1 kv2), .owb (thD A o b2 tv2), .emp]
  refine ⟨⟨rfl, rfl⟩, rfl, f, o, n, b1, kv2, _, rfl, hf, k2, hn, fun b3 kv3 k3 => ?_⟩
  show b_is_parting_t5 A _ [.shr (kD A f), .shr (rowD o), .shr (.int x), .shr (rowD n), .owb (knD A f n b3 kv3), .owb (thD A o b2 tv2), .emp]
  refine ⟨⟨rfl, rfl⟩, rfl, o, n, b2, tv2, _, rfl, t2, hn, fun b4 tv4 t4 => ?_⟩
  show b_is_parting_t6 A _ [.shr (kD A f), .shr (rowD o), .shr (.int x), .shr (rowD n), .owb (knD A f n b3 kv3), .owb (thD A n b4 tv4), .emp]
  refine lc_of (ρ := [.shr (kD A f), .shr (rowD o), .shr (.int x), .shr (rowD n), .owb (knD A f n b3 kv3), .owb (thD A n b4 tv4), .emp]) (List.range n.length) (fun j => .int (n.getD j 0)) (fun j => if ptB f o k n j = true then some (.int (n.getD j 0)) else none) (iD_rng n) rfl (by rw [sizeLine_eq, List.length_range]; omega) (fun j hj acc N hl hN => ?_) ?_
  · have hj := List.mem_range.mp hj
    have ej := getD_of hj
    obtain ⟨q, hq⟩ := ids_at (f := f) ej
    refine ⟨rfl, rfl, rfl, f, n, b3, kv3, _, j, n.getD j 0, q, rfl, k3, hn, ej, hq, rfl, rfl, n, b4, tv4, _, j, n.getD j 0, rfl, t4, ej, rfl, rfl, ?_⟩
    have hpm := List.mem_of_getElem? hp
    have hxm := List.mem_of_getElem? hx
    have e1 : (if q ∈ ids f o then (if q = p then (1 : Int) else 0) else 0) = if q = p then 1 else 0 := by
      by_cases e : q = p
      · subst e; rw [if_pos hpm]
      · rw [if_neg e]; split <;> rfl
    have e2 : (if n.getD j 0 ∈ o then (if n.getD j 0 = x then (1 : Int) else 0) else 0) = if n.getD j 0 = x then 1 else 0 := by
      by_cases e : n.getD j 0 = x
      · rw [e, if_pos hxm]
      · rw [if_neg e]; split <;> rfl
    show if (!(D.eqv (.int (if q ∈ ids f o then (if q = p then (1 : Int) else 0) else 0)) (.int (if n.getD j 0 ∈ o then (if n.getD j 0 = x then (1 : Int) else 0) else 0)))) = true then _ else _
    rw [e1, e2, eqi']
    have e3 : Pt f o k n j ↔ ¬ (q = p ↔ n.getD j 0 = x) := by
      unfold Pt
      rw [hq, hp, ej, hx]; simp
    refine ifs (fun z => ?_) fun z => ?_
    · have pt : ptB f o k n j = true := by
        rw [ptB_iff, e3]
        intro w
        by_cases e : q = p
        · rw [if_pos e, if_pos (w.mp e)] at z; simp at z
        · rw [if_neg e, if_neg fun y => e (w.mpr y)] at z; simp at z
      rw [if_pos pt] at hN
      exact ⟨hl, hN⟩
    · have pt : ¬ ptB f o k n j = true := by
        rw [ptB_iff, e3]
        intro w
        apply z
        by_cases e : q = p
        · have e' : ¬ n.getD j 0 = x := fun y => w ⟨fun _ => y, fun _ => e⟩
          rw [if_pos e, if_neg e']; simp
        · have e' : n.getD j 0 = x := Classical.byContradiction fun y => w ⟨fun u => absurd u e, fun u => absurd u y⟩
          rw [if_neg e, if_pos e']; simp
      rw [if_neg pt] at hN
      have hN' : N (acc ++ []) _ := hN
      rw [List.append_nil] at hN'
      exact hN'
  · rw [fm_if]
    have sh : (D.lst (((List.range n.length).filter (ptB f o k n)).map fun j => D.int (n.getD j 0))).shp = true := by
      have := (iD_shp (((List.range n.length).filter (ptB f o k n)).map fun j => n.getD j 0)).1
      unfold iD at this
      rwa [List.map_map] at this
    exact ⟨trivial, sz _ rfl, sh, rfl, h _ (prt_iff _)⟩
def sp_least_parting (A : Ad) : S3 := fun ds QR _ => ∃ (f : Fm) (rows : List (List Int)), ds = [kD A f, .tup (rsD rows)] ∧ f.dep ≤ 7 ∧ (∀ r ∈ rows, Row r) ∧ ((∀ o ∈ rows, ∀ n ∈ rows, ∀ k < o.length, ¬ Prt f o k n) → QR .non ds) ∧
  (∀ i j k o n x, Fst3 (Prt f) rows rows i j k o n → o[k]? = some x → QR (.tup [rowD o, .int x, rowD n]) ds)
def b_least_parting_l1l2l3 (A : Ad) : T3S := (sIf (fTru (eCall [.shr, .shr, .shr, .shr] (sp_is_parting A) (aCons (eVar 0) (aCons (eVar 2) (aCons (eVar 4) (aCons (eVar 3) aNil))))))
 (sRet (eTup (aCons (eVar 2) (aCons (eVar 4) (aCons (eVar 3) aNil)))))
 sNext)
def b_least_parting_l1l2 (A : Ad) : T3S := (sFor (iS (eVar 2)) (gN 4)
 (b_least_parting_l1l2l3 A))
def b_least_parting_l1 (A : Ad) : T3S := (sFor (iS (eVar 1)) (gN 3)
 (b_least_parting_l1l2 A))
def b_least_parting_t1 (A : Ad) : T3S := (sRet (eC .non))
def b_least_parting (A : Ad) : T3S := (sSeq (sFor (iS (eVar 1)) (gN 2)
 (b_least_parting_l1 A))
 (b_least_parting_t1 A))
theorem t_least_parting (A : Ad) : ∀ ds QR QO, sp_least_parting A ds QR QO → ds.length = 2 → b_least_parting A (endE [.shr, .shr] ds QR QO) (startE 3 [.shr, .shr] ds) := by
  rintro ds QR QO ⟨f, rows, rfl, hf, hm, hy, hno⟩ _
  refine for_inv (fun i ρ => ∃ s2 s3 s4, s2.locked = false ∧ s3.locked = false ∧ s4.locked = false ∧ (∀ (i' : Nat) (o' : List Int), i' < i → rows[i']? = some o' → ∀ n' ∈ rows, ∀ k' < o'.length, ¬ Prt f o' k' n') ∧ ρ = [.shr (kD A f), .shr (.tup (rsD rows)), s2, s3, s4]) _ ?_ ?_ ⟨.emp, .emp, .emp, rfl, rfl, rfl, fun _ _ h => absurd h (Nat.not_lt_zero _), rfl⟩
  · rintro i d ρ N hd ⟨s2, s3, s4, h2, h3, h4, inv, rfl⟩ hN
    obtain ⟨o, ho, rfl⟩ := map_getS hd
    refine ⟨unF h2, ?_⟩
    show b_least_parting_l1 A { nx := N, rt := _, ro := _, bk := _, ct := N } [.shr (kD A f), .shr (.tup (rsD rows)), .shr (rowD o), s3, s4]
    refine for_inv (fun j ρ => ∃ s3 s4, s3.locked = false ∧ s4.locked = false ∧ (∀ (j' : Nat) (n' : List Int), j' < j → rows[j']? = some n' → ∀ k' < o.length, ¬ Prt f o k' n') ∧ ρ = [.shr (kD A f), .shr (.tup (rsD rows)), .shr (rowD o), s3, s4]) _ ?_ ?_ ⟨s3, s4, h3, h4, fun _ _ h => absurd h (Nat.not_lt_zero _), rfl⟩
    · rintro j d ρ N2 hd ⟨s3, s4, h3, h4, inv2, rfl⟩ hN2
      obtain ⟨n, hn, rfl⟩ := map_getS hd
      refine ⟨unF h3, ?_⟩
      show b_least_parting_l1l2 A { nx := N2, rt := _, ro := _, bk := _, ct := N2 } [.shr (kD A f), .shr (.tup (rsD rows)), .shr (rowD o), .shr (rowD n), s4]
      refine for_inv (fun k ρ => ∃ s4, s4.locked = false ∧ (∀ k' < k, ¬ Prt f o k' n) ∧ ρ = [.shr (kD A f), .shr (.tup (rsD rows)), .shr (rowD o), .shr (rowD n), s4]) _ ?_ ?_ ⟨s4, h4, fun _ h => absurd h (Nat.not_lt_zero _), rfl⟩
      · rintro k d ρ N3 hd ⟨s4, h4, inv3, rfl⟩ hN3
        obtain ⟨x, hx, rfl⟩ := map_getS hd
        refine ⟨unF h4, ?_⟩
        show b_least_parting_l1l2l3 A { nx := N3, rt := _, ro := _, bk := _, ct := N3 } [.shr (kD A f), .shr (.tup (rsD rows)), .shr (rowD o), .shr (rowD n), .shr (.int x)]
        refine ⟨rfl, f, o, n, k, x, rfl, hf, hm _ (List.mem_of_getElem? ho), hm _ (List.mem_of_getElem? hn), hx, fun b hb => ?_⟩
        refine ifs (fun z => ?_) fun z => hN3 _ ⟨.shr (.int x), rfl, fun k' hk' => ?_, rfl⟩
        · exact ⟨sz _ rfl, trivial, trivial, trivial, hno i j k o n x ⟨ho, hn, (List.getElem?_eq_some_iff.mp hx).1, hb.mp z, inv, inv2, inv3⟩ hx⟩
        · by_cases e : k' = k
          · subst e; exact fun q => z (hb.mpr q)
          · exact inv3 k' (by omega)
      · rintro ρ ⟨s4, h4, inv3, rfl⟩
        have inv3 : ∀ k' < (iD o).length, ¬ Prt f o k' n := inv3
        rw [iD_len] at inv3
        refine ⟨trivial, hN2 _ ⟨.shr (rowD n), s4, rfl, h4, fun j' n' hj en => ?_, rfl⟩⟩
        by_cases e : j' = j
        · subst e
          rw [hn] at en; cases en
          exact inv3
        · exact inv2 j' n' (by omega) en
    · rintro ρ ⟨s3, s4, h3, h4, inv2, rfl⟩
      refine ⟨trivial, hN _ ⟨.shr (rowD o), s3, s4, rfl, h3, h4, fun i' o' hi eo => ?_, rfl⟩⟩
      by_cases e : i' = i
      · subst e
        rw [ho] at eo; cases eo
        intro n' hn'
        obtain ⟨j', en'⟩ := List.mem_iff_getElem?.mp hn'
        exact inv2 j' n' (by rw [rsD_len]; exact (List.getElem?_eq_some_iff.mp en').1) en'
      · exact inv i' o' (by omega) eo
  · rintro ρ ⟨s2, s3, s4, h2, h3, h4, inv, rfl⟩
    refine ⟨trivial, hy fun o ho n hn => ?_⟩
    obtain ⟨i', eo⟩ := List.mem_iff_getElem?.mp ho
    exact inv i' o (by rw [rsD_len]; exact (List.getElem?_eq_some_iff.mp eo).1) eo n hn
def sp__law_told_items (A : Ad) : S3 := fun ds QR _ => ∃ r : List Int, ds = [rowD r, rowD r] ∧ r.length ≤ 5 ∧ QR (.bl true) ds
def b__law_told_items_l1 (A : Ad) : T3S := (sIf (fOr (fNot (fTru (eCall [.shr] (sp__law_number A) (aCons (eOp oIdx (eVar 0) (eVar 2)) aNil)))) (fTst (eOp (oEq true) (eOp oIdx (eVar 0) (eVar 2)) (eOp oIdx (eVar 1) (eVar 2)))))
 (sRet (eC (.bl false)))
 sNext)
def b__law_told_items_t2 (A : Ad) : T3S := (sRet (eC (.bl true)))
def b__law_told_items_t1 (A : Ad) : T3S := (sSeq (sFor (iR1 (aCons (eCB cLen (aCons (eVar 1) aNil)) aNil)) (gN 2)
 (b__law_told_items_l1 A))
 (b__law_told_items_t2 A))
def b__law_told_items (A : Ad) : T3S := (sSeq (sIf (fOr (fNot (fTru (eCB cIsi (aCons (eVar 0) (aCons (eC (.ty "tuple")) aNil))))) (fTst (eOp (oEq true) (eCB cLen (aCons (eVar 0) aNil)) (eCB cLen (aCons (eVar 1) aNil)))))
 (sRet (eC (.bl false)))
 sNext)
 (b__law_told_items_t1 A))
theorem t__law_told_items (A : Ad) : ∀ ds QR QO, sp__law_told_items A ds QR QO → ds.length = 2 → b__law_told_items A (endE [.shr, .shr] ds QR QO) (startE 1 [.shr, .shr] ds) := by
  rintro ds QR QO ⟨r, rfl, hl, h⟩ _
  refine ⟨rfl, rfl, rfl, ?_⟩
  show if (!(D.eqv (.int ((iD r).length : Nat)) (.int ((iD r).length : Nat)))) = true then _ else _
  rw [eqi']
  refine ife (by simp) ⟨⟨by omega, by rw [iD_len]; omega⟩, ?_⟩
  refine for_inv (fun i ρ => ∃ s2, s2.locked = false ∧ ρ = [.shr (rowD r), .shr (rowD r), s2]) _ ?_ ?_ ⟨.emp, rfl, rfl⟩
  · rintro i d ρ N hd ⟨s2, h2, rfl⟩ hN
    obtain ⟨hi, rfl⟩ := rng_get hd
    have hi : i < r.length := by
      have : i < ((iD r).length : Int).toNat := hi
      rw [iD_len] at this; omega
    refine ⟨unF h2, ?_⟩
    refine wo_in (rowD_at hi) ⟨rfl, _, rfl, ?_⟩
    refine wo_in (rowD_at hi) (wo_in (rowD_at hi) ⟨rfl, rfl, ?_⟩)
    show if (!(D.eqv (.int r[i]) (.int r[i]))) = true then _ else _
    rw [eqi']
    exact ife (by simp) (hN _ ⟨.shr (.int (i : Nat)), rfl, rfl⟩)
  · rintro ρ ⟨s2, h2, rfl⟩
    exact ⟨trivial, h⟩
end K28
end L3

set_option pp.maxSteps 3000
set_option Elab.async false
set_option linter.all false
set_option maxRecDepth 100000
set_option autoImplicit false
set_option maxHeartbeats 0
namespace L3
open PySem PySem.Spec L2
/-- a comprehension that changes nothing else, from any list on -/
theorem lc_acc {α : Type} {g : T3G} {tt : T3T} {te : T3E} {vs : List Nat} {Q : List D → En → Prop} (it : α → D) (out : α → Option D) {ρ : En} (no : noW ρ vs = true) (l : List α) (acc0 : List D) (hl : acc0.length + l.length < sizeLine)
    (step : ∀ (a : α), a ∈ l → ∀ (acc : List D) (N : List D → En → Prop), acc.length < sizeLine → N (acc ++ (out a).toList) ρ → g (it a) (wipeE ρ vs) fun ρ2 => tt ρ2 fun b ρ3 =>
      if b = true then te ρ3 fun r ρ4 => match r with
        | .val d => acc.length < sizeLine ∧ N (acc ++ [d]) (restE ρ vs ρ4)
        | _ => False
      else N acc (restE ρ vs ρ3)) (done : Q (acc0 ++ l.filterMap out) ρ) : lcL g tt te vs Q (l.map it) acc0 ρ := by
  induction l generalizing acc0 with
  | nil => simpa [lcL] using done
  | cons a l ih =>
    rw [List.length_cons] at hl
    show noW ρ vs = true ∧ _
    refine ⟨no, step a (List.mem_cons_self ..) acc0 (fun acc ρ => lcL g tt te vs Q (l.map it) acc ρ) (by omega) (ih (acc0 ++ (out a).toList) ?_ (fun b hb => step b (List.mem_cons_of_mem _ hb)) ?_)⟩
    · rw [List.length_append]
      have : (out a).toList.length ≤ 1 := by cases out a <;> simp
      omega
    · cases e : out a with
      | none => rw [List.filterMap_cons, e] at done; simpa using done
      | some d => rw [List.filterMap_cons, e] at done; simpa [List.append_assoc] using done
/-- .. where only what is kept counts -/
theorem lc_acc2 {α : Type} {g : T3G} {tt : T3T} {te : T3E} {vs : List Nat} {Q : List D → En → Prop} (it : α → D) (out : α → Option D) {ρ : En} (no : noW ρ vs = true) (l : List α) (acc0 : List D) (hl : acc0.length + (l.filterMap out).length < sizeLine)
    (step : ∀ (a : α), a ∈ l → ∀ (acc : List D) (N : List D → En → Prop), acc.length + (out a).toList.length < sizeLine → N (acc ++ (out a).toList) ρ → g (it a) (wipeE ρ vs) fun ρ2 => tt ρ2 fun b ρ3 =>
      if b = true then te ρ3 fun r ρ4 => match r with
        | .val d => acc.length < sizeLine ∧ N (acc ++ [d]) (restE ρ vs ρ4)
        | _ => False
      else N acc (restE ρ vs ρ3)) (done : Q (acc0 ++ l.filterMap out) ρ) : lcL g tt te vs Q (l.map it) acc0 ρ := by
  induction l generalizing acc0 with
  | nil => simpa [lcL] using done
  | cons a l ih =>
    have e : (a :: l).filterMap out = (out a).toList ++ l.filterMap out := by
      rw [List.filterMap_cons]; cases out a <;> rfl
    rw [e] at hl done
    rw [List.length_append] at hl
    rw [← List.append_assoc] at done
    show noW ρ vs = true ∧ _
    exact ⟨no, step a (List.mem_cons_self ..) acc0 (fun acc ρ => lcL g tt te vs Q (l.map it) acc ρ) (by omega) (ih (acc0 ++ (out a).toList) (by rw [List.length_append]; omega) (fun b hb => step b (List.mem_cons_of_mem _ hb)) done)⟩
theorem lc2_acc {α : Type} {g : T3G} {tt : T3T} {w1 : T3I} {g1 : T3G} {tt1 : T3T} {te : T3E} {vs vs1 : List Nat} {Q : List D → En → Prop} (it : α → D) (outs : α → List D) {ρ : En} (l : List α) (acc0 : List D) (hl : acc0.length + (l.flatMap outs).length < sizeLine)
    (step : ∀ (a : α), a ∈ l → ∀ (acc : List D) (N : List D → En → Prop), acc.length + (outs a).length < sizeLine → N (acc ++ outs a) ρ → noW ρ vs = true ∧ g (it a) (wipeE ρ vs) fun ρ2 => tt ρ2 fun b ρ3 =>
      if b = true then w1 ρ3 fun it1 ρ4 => lcL g1 tt1 te vs1 (fun acc' ρ5 => N acc' (restE ρ vs ρ5)) it1.items acc ρ4
      else N acc (restE ρ vs ρ3)) (done : Q (acc0 ++ l.flatMap outs) ρ) : lcL2 g tt w1 g1 tt1 te vs vs1 Q (l.map it) acc0 ρ := by
  induction l generalizing acc0 with
  | nil => simpa [lcL2] using done
  | cons a l ih =>
    rw [List.flatMap_cons, List.length_append] at hl
    rw [List.flatMap_cons, ← List.append_assoc] at done
    exact step a (List.mem_cons_self ..) acc0 (fun acc ρ => lcL2 g tt w1 g1 tt1 te vs vs1 Q (l.map it) acc ρ) (by omega) (ih (acc0 ++ outs a) (by rw [List.length_append]; omega) (fun b hb => step b (List.mem_cons_of_mem _ hb)) done)
namespace K28
open PyProof.Rows (b2i)
/-! ### all rows -/
def stepO (r : List Int) (k : Nat) : Option (List Int) := if (k : Int) ∈ r then none else some (r ++ [(k : Int)])
def stepR (sz : Nat) (r : List Int) : List (List Int) := (List.range sz).filterMap (stepO r)
def RR (sz : Nat) : Nat → List (List Int)
  | 0 => [[]]
  | n + 1 => (RR sz n).flatMap (stepR sz)
theorem stepR_len (sz : Nat) (r : List Int) : (stepR sz r).length ≤ sz := by
  have := List.length_filterMap_le (stepO r) (List.range sz)
  rwa [List.length_range] at this
theorem flat_len {α β : Type} {f : α → List β} {m : Nat} : ∀ (l : List α), (∀ a ∈ l, (f a).length ≤ m) → (l.flatMap f).length ≤ l.length * m
  | [], _ => by simp
  | a :: l, h => by
    rw [List.flatMap_cons, List.length_append, List.length_cons, Nat.succ_mul]
    have h1 := h a (List.mem_cons_self ..)
    have h2 := flat_len l fun b hb => h b (List.mem_cons_of_mem _ hb)
    omega
theorem RR_len {sz : Nat} (h : sz ≤ 4) : ∀ n, (RR sz n).length ≤ 4 ^ n
  | 0 => by simp [RR]
  | n + 1 => by
    have h1 := flat_len (m := 4) (f := stepR sz) (RR sz n) fun a _ => Nat.le_trans (stepR_len sz a) h
    have h2 := RR_len h n
    show ((RR sz n).flatMap (stepR sz)).length ≤ _
    rw [Nat.pow_succ]
    omega
theorem RR_len' {sz n : Nat} (h : sz ≤ 4) (hn : n ≤ 4) : (RR sz n).length ≤ 256 := by
  have h1 := RR_len h n
  have h2 : 4 ^ n ≤ 4 ^ 4 := Nat.pow_le_pow_right (by decide) hn
  have h3 : (4 : Nat) ^ 4 = 256 := by decide
  omega
theorem mem_step {sz : Nat} {r s : List Int} : s ∈ stepR sz r ↔ ∃ k : Nat, k < sz ∧ (k : Int) ∉ r ∧ s = r ++ [(k : Int)] := by
  unfold stepR
  rw [List.mem_filterMap]
  constructor
  · rintro ⟨k, hk, e⟩
    unfold stepO at e
    by_cases q : (k : Int) ∈ r
    · rw [if_pos q] at e; cases e
    · rw [if_neg q] at e; cases e
      exact ⟨k, List.mem_range.mp hk, q, rfl⟩
  · rintro ⟨k, hk, q, rfl⟩
    exact ⟨k, List.mem_range.mpr hk, by unfold stepO; rw [if_neg q]⟩
/-- what a row of this size and length is -/
structure Rz (sz n : Nat) (r : List Int) : Prop where
  len : r.length = n
  nd : r.Nodup
  it : ∀ x ∈ r, 0 ≤ x ∧ x < sz
theorem mem_RR {sz : Nat} : ∀ {n : Nat} {r : List Int}, r ∈ RR sz n ↔ Rz sz n r
  | 0, r => by
    show r ∈ [[]] ↔ _
    rw [List.mem_singleton]
    constructor
    · rintro rfl; exact ⟨rfl, List.nodup_nil, fun x hx => nomatch hx⟩
    · intro h; exact List.length_eq_zero_iff.mp h.len
  | n + 1, r => by
    show r ∈ (RR sz n).flatMap (stepR sz) ↔ _
    rw [List.mem_flatMap]
    constructor
    · rintro ⟨s, hs, hr⟩
      have h := mem_RR.mp hs
      obtain ⟨k, hk, hn, rfl⟩ := mem_step.mp hr
      refine ⟨by rw [List.length_append, h.len]; rfl, ?_, fun x hx => ?_⟩
      · rw [List.nodup_append]
        exact ⟨h.nd, List.nodup_cons.mpr ⟨fun z => (nomatch z), List.nodup_nil⟩, fun a ha b hb e => by rw [List.mem_singleton] at hb; subst hb; subst e; exact hn ha⟩
      · rcases List.mem_append.mp hx with z | z
        · exact h.it x z
        · rw [List.mem_singleton] at z; subst z; omega
    · intro h
      have ne : r ≠ [] := fun e => by have := h.len; rw [e] at this; cases this
      have es := List.dropLast_concat_getLast ne
      generalize r.getLast ne = x at es
      generalize r.dropLast = s at es
      subst es
      have nd := List.nodup_append.mp h.nd
      have hx := h.it x (List.mem_append_right _ (List.mem_cons_self ..))
      refine ⟨s, mem_RR.mpr ⟨by have := h.len; rw [List.length_append] at this; simpa using this, nd.1, fun y hy => h.it y (List.mem_append_left _ hy)⟩, mem_step.mpr ⟨x.toNat, by omega, fun z => ?_, by rw [Int.toNat_of_nonneg hx.1]⟩⟩
      rw [Int.toNat_of_nonneg hx.1] at z
      exact nd.2.2 x z x (List.mem_cons_self ..) rfl
theorem Rz.row {sz n : Nat} {r : List Int} (h : Rz sz n r) (hs : sz ≤ 9) (hn : n ≤ 5) : Row r := ⟨h.nd, fun x hx => by have := h.it x hx; omega, by rw [h.len]; exact hn⟩
/-- the inner comprehension -/
theorem step_D (sz : Nat) (r : List Int) : (List.range sz).filterMap (fun k => (stepO r k).map rowD) = (stepR sz r).map rowD := by
  unfold stepR
  rw [List.map_filterMap]
theorem rowD_snoc (r : List Int) (k : Nat) : D.tup (iD r ++ [.int (k : Int)]) = rowD (r ++ [(k : Int)]) := by unfold rowD iD; rw [List.map_append]; rfl
theorem flat_D (sz : Nat) (l : List (List Int)) : l.flatMap (fun r => (stepR sz r).map rowD) = rsD (l.flatMap (stepR sz)) := by
  unfold rsD; rw [List.map_flatMap]
def sp_rows_of (A : Ad) : S3 := fun ds QR _ => ∃ sz n : Nat, ds = [.int sz, .int n] ∧ sz ≤ 4 ∧ n ≤ 4 ∧ QR (.lst (rsD (RR sz n))) ds
def b_rows_of_l1 (A : Ad) : T3S := (sAsg (eShr (oLc2 (iS (eVar 2)) (gN 4) fYes (iR1 (aCons (eVar 0) aNil)) (gN 5) (fTst (eOp (oIn true) (eVar 5) (eVar 4))) (eOp oAdd (eVar 4) (eTup (aCons (eVar 5) aNil))) [4, 5] [5])) (gN 2))
def b_rows_of_t2 (A : Ad) : T3S := (sRet (eVar 2))
def b_rows_of_t1 (A : Ad) : T3S := (sSeq (sFor (iR1 (aCons (eVar 1) aNil)) (gN 3)
 (b_rows_of_l1 A))
 (b_rows_of_t2 A))
def b_rows_of (A : Ad) : T3S := (sSeq (sAsg (eLst (aCons (eTup aNil) aNil)) (gN 2))
 (b_rows_of_t1 A))
theorem rng_m (m : Nat) : rngD 0 1 ((m : Nat) : Int).toNat = (List.range m).map fun (k : Nat) => D.int (k : Int) := by rw [Int.toNat_natCast, rng_nD]; rfl
theorem stepO_in {r : List Int} {k : Nat} (h : (k : Int) ∈ r) : (stepO r k).map rowD = none := by unfold stepO; rw [if_pos h]; rfl
theorem stepO_no {r : List Int} {k : Nat} (h : ¬ (k : Int) ∈ r) : (stepO r k).map rowD = some (rowD (r ++ [(k : Int)])) := by unfold stepO; rw [if_neg h]; rfl
theorem t_rows_of (A : Ad) : ∀ ds QR QO, sp_rows_of A ds QR QO → ds.length = 2 → b_rows_of A (endE [.shr, .shr] ds QR QO) (startE 4 [.shr, .shr] ds) := by
  rintro ds QR QO ⟨m, n, rfl, hs, hn, h⟩ _
  refine ⟨sz _ rfl, sz _ rfl, rfl, ⟨by omega, by omega⟩, ?_⟩
  refine for_inv (fun i ρ => ∃ s3, s3.locked = false ∧ ρ = [.shr (.int m), .shr (.int n), .shr (.lst (rsD (RR m i))), s3, .emp, .emp]) _ ?_ ?_ ⟨.emp, rfl, rfl⟩
  · rintro i d ρ N hd ⟨s3, h3, rfl⟩ hN
    obtain ⟨hi, rfl⟩ := rng_get hd
    have hi : i < n := by
      have : i < ((n : Nat) : Int).toNat := hi
      omega
    refine ⟨unF h3, ?_⟩
    have bl := RR_len' hs (show i + 1 ≤ 4 by omega)
    refine lc2_acc (ρ := [.shr (.int m), .shr (.int n), .shr (.lst (rsD (RR m i))), .shr (.int (i : Nat)), .emp, .emp]) rowD (fun r => (stepR m r).map rowD) (RR m i) [] ?_ (fun r hr acc N2 hl hN2 => ?_) ?_
    · rw [flat_D, rsD_len, sizeLine_eq]
      show 0 + (RR m (i + 1)).length < _
      omega
    · have hrz := mem_RR.mp hr
      have hrl := hrz.len
      rw [List.length_map] at hl
      have ha : acc.length < 300 + sizeLine := by omega
      refine ⟨rfl, rfl, ⟨by omega, by omega⟩, ?_⟩
      show lcL (gN 5) _ _ [5] _ (rngD 0 1 ((m : Nat) : Int).toNat) acc [.shr (.int m), .shr (.int n), .shr (.lst (rsD (RR m i))), .shr (.int (i : Nat)), .shr (rowD r), .emp]
      rw [rng_m]
      refine lc_acc2 (ρ := [.shr (.int m), .shr (.int n), .shr (.lst (rsD (RR m i))), .shr (.int (i : Nat)), .shr (rowD r), .emp]) (fun (k : Nat) => D.int (k : Int)) (fun k => (stepO r k).map rowD) rfl (List.range m) acc (by rw [step_D, List.length_map]; exact hl) (fun k hk acc2 N3 hl3 hN3 => ?_) ?_
      · refine ⟨rfl, rfl, (iD_shp r).2, ?_⟩
        show if (!((iD r).any fun z => D.eqv z (.int (k : Int)))) = true then _ else _
        rw [any_int]
        refine ifs (fun z => ?_) fun z => ?_
        · have z : ¬ (k : Int) ∈ r := by simpa using z
          rw [stepO_no z] at hN3 hl3
          refine ⟨sz _ rfl, by rw [iD_len, hrl, sizeLine_eq]; show i + 1 ≤ _; omega, Nat.lt_of_succ_lt (show acc2.length + 1 < sizeLine by simpa using hl3), ?_⟩
          show N3 (acc2 ++ [D.tup (iD r ++ [.int (k : Int)])]) _
          rw [rowD_snoc]
          exact hN3
        · have z : (k : Int) ∈ r := by simpa using z
          rw [stepO_in z] at hN3
          have hN3 : N3 (acc2 ++ []) _ := hN3
          rw [List.append_nil] at hN3
          exact hN3
      · rw [step_D]
        exact hN2
    · refine ⟨trivial, rfl, hN _ ⟨.shr (.int (i : Nat)), rfl, ?_⟩⟩
      rw [flat_D]; rfl
  · rintro ρ ⟨s3, h3, rfl⟩
    have e : (rngD 0 1 ((n : Nat) : Int).toNat).length = n := by rw [rngD_len]; omega
    refine ⟨trivial, ?_⟩
    have h := h
    show QR (.lst (rsD (RR m (rngD 0 1 ((n : Nat) : Int).toNat).length))) _
    rw [e]
    exact h
/-- the law's lists of rows -/
def LD (m i : Nat) : List D := (List.range (i + 1)).map fun n => D.lst (rsD (RR m n))
theorem LD_snoc (m i : Nat) : LD m (i + 1) = LD m i ++ [.lst (rsD (RR m (i + 1)))] := by
  unfold LD; rw [List.range_succ, List.map_append]; rfl
theorem LD_len (m i : Nat) : (LD m i).length = i + 1 := by simp [LD]
theorem LD_get {m i n : Nat} (h : n ≤ i) : (LD m i)[n]? = some (.lst (rsD (RR m n))) := by
  unfold LD
  rw [List.getElem?_map, List.getElem?_range (by omega)]; rfl
theorem LD_at {m i n : Nat} (h : n ≤ i) : L2.atI (LD m i) (n : Int) = some (.lst (rsD (RR m n))) := atI_nat (LD_get h)
def sp__law_all_rows (A : Ad) : S3 := fun ds _ QO => ∃ m n : Nat, ds = [.int m, .int n] ∧ m ≤ 4 ∧ n ≤ 4 ∧ QO (.lst (LD m n)) ds
def b__law_all_rows_l1l2 (A : Ad) : T3S := (sDrop (eBM "list" mExtend (eVar 4) (aCons (eShr (oLc (iR1 (aCons (eVar 0) aNil)) (gN 6) (fTst (eOp (oIn true) (eVar 6) (eVar 5))) (eOp oAdd (eVar 5) (eTup (aCons (eVar 6) aNil))) [6])) aNil)))
def b__law_all_rows_l1t2 (A : Ad) : T3S := (sFrz 4 (sDrop (eBM "list" mAppend (eVar 2) (aCons (eVar 4) aNil))))
def b__law_all_rows_l1t1 (A : Ad) : T3S := (sSeq (sFor (iS (eOp oIdx (eVar 2) (eVar 3))) (gN 5)
 (b__law_all_rows_l1l2 A))
 (b__law_all_rows_l1t2 A))
def b__law_all_rows_l1 (A : Ad) : T3S := (sSeq (sAsgO (oLst aNil) 4)
 (b__law_all_rows_l1t1 A))
def b__law_all_rows_t2 (A : Ad) : T3S := (sRet (eVar 2))
def b__law_all_rows_t1 (A : Ad) : T3S := (sSeq (sFor (iR1 (aCons (eVar 1) aNil)) (gN 3)
 (b__law_all_rows_l1 A))
 (b__law_all_rows_t2 A))
def b__law_all_rows (A : Ad) : T3S := (sSeq (sAsgO (oLst (aCons (eLst (aCons (eTup aNil) aNil)) aNil)) 2)
 (b__law_all_rows_t1 A))
theorem t__law_all_rows (A : Ad) : ∀ ds QR QO, sp__law_all_rows A ds QR QO → ds.length = 2 → b__law_all_rows A (endE [.shr, .shr] ds QR QO) (startE 5 [.shr, .shr] ds) := by
  rintro ds QR QO ⟨m, n, rfl, hs, hn, h⟩ _
  refine ⟨sz _ rfl, sz _ rfl, sz _ rfl, rfl, ⟨by omega, by omega⟩, ?_⟩
  refine for_inv (fun i ρ => ∃ s3 s4 s5, s3.locked = false ∧ s4.locked = false ∧ s5.locked = false ∧ ρ = [.shr (.int m), .shr (.int n), .own (.lst (LD m i)), s3, s4, s5, .emp]) _ ?_ ?_ ⟨.emp, .emp, .emp, rfl, rfl, rfl, rfl⟩
  · rintro i d ρ N hd ⟨s3, s4, s5, h3, h4, h5, rfl⟩ hN
    obtain ⟨hi, rfl⟩ := rng_get hd
    have hi : i < n := by
      have : i < ((n : Nat) : Int).toNat := hi
      omega
    have bl := RR_len' hs (show i + 1 ≤ 4 by omega)
    refine ⟨unF h3, sz _ rfl, unF h4, wo_in (LD_at (Nat.le_refl i)) ?_⟩
    show forL (gN 5) _ _ (rsD (RR m i)) [.shr (.int m), .shr (.int n), .own (.lst (LD m i)), .shr (.int (i : Nat)), .own (.lst []), s5, .emp]
    refine for_inv (fun j ρ => ∃ s5, s5.locked = false ∧ ρ = [.shr (.int m), .shr (.int n), .own (.lst (LD m i)), .shr (.int (i : Nat)), .own (.lst (rsD (((RR m i).take j).flatMap (stepR m)))), s5, .emp]) _ ?_ ?_ ⟨s5, h5, rfl⟩
    · rintro j d ρ N2 hd ⟨s5, h5, rfl⟩ hN2
      obtain ⟨r, hr, rfl⟩ := map_getS hd
      have hrz := mem_RR.mp (List.mem_of_getElem? hr)
      have hrl := hrz.len
      have es : ((RR m i).take (j + 1)).flatMap (stepR m) = ((RR m i).take j).flatMap (stepR m) ++ stepR m r := by
        rw [List.take_add_one, hr, List.flatMap_append]; simp
      have bt : (((RR m i).take (j + 1)).flatMap (stepR m)).length ≤ 1024 := by
        have h1 := flat_len (m := 4) (f := stepR m) ((RR m i).take (j + 1)) fun a _ => Nat.le_trans (stepR_len m a) hs
        have h2 := RR_len' hs (show i ≤ 4 by omega)
        have h3 : ((RR m i).take (j + 1)).length ≤ (RR m i).length := by rw [List.length_take]; omega
        omega
      rw [es, List.length_append] at bt
      refine ⟨unF h5, rfl, ⟨by omega, by omega⟩, ?_⟩
      show lcL (gN 6) _ _ [6] _ (rngD 0 1 ((m : Nat) : Int).toNat) [] [.shr (.int m), .shr (.int n), .own (.lst (LD m i)), .shr (.int (i : Nat)), .own (.lst (rsD (((RR m i).take j).flatMap (stepR m)))), .shr (rowD r), .emp]
      rw [rng_m]
      refine lc_acc2 (ρ := [.shr (.int m), .shr (.int n), .own (.lst (LD m i)), .shr (.int (i : Nat)), .own (.lst (rsD (((RR m i).take j).flatMap (stepR m)))), .shr (rowD r), .emp]) (fun (k : Nat) => D.int (k : Int)) (fun k => (stepO r k).map rowD) rfl (List.range m) [] (by rw [step_D, List.length_map, sizeLine_eq]; have := stepR_len m r; show 0 + _ < _; omega) (fun k hk acc2 N3 hl3 hN3 => ?_) ?_
      · refine ⟨rfl, rfl, (iD_shp r).2, ?_⟩
        show if (!((iD r).any fun z => D.eqv z (.int (k : Int)))) = true then _ else _
        rw [any_int]
        refine ifs (fun z => ?_) fun z => ?_
        · have z : ¬ (k : Int) ∈ r := by simpa using z
          rw [stepO_no z] at hN3 hl3
          refine ⟨sz _ rfl, by rw [iD_len, hrl, sizeLine_eq]; show i + 1 ≤ _; omega, Nat.lt_of_succ_lt (show acc2.length + 1 < sizeLine by simpa using hl3), ?_⟩
          show N3 (acc2 ++ [D.tup (iD r ++ [.int (k : Int)])]) _
          rw [rowD_snoc]
          exact hN3
        · have z : (k : Int) ∈ r := by simpa using z
          rw [stepO_in z] at hN3
          have hN3 : N3 (acc2 ++ []) _ := hN3
          rw [List.append_nil] at hN3
          exact hN3
      · rw [step_D]
        refine ⟨trivial, ?_⟩
        refine ⟨by show (rsD (((RR m i).take j).flatMap (stepR m))).length + ((stepR m r).map rowD).length ≤ _; rw [rsD_len, List.length_map, sizeLine_eq]; omega, hN2 _ ⟨.shr (rowD r), rfl, ?_⟩⟩
        have em : rsD (((RR m i).take (j + 1)).flatMap (stepR m)) = rsD (((RR m i).take j).flatMap (stepR m)) ++ (stepR m r).map rowD := by
          rw [es]; unfold rsD; rw [List.map_append]
        rw [em]; rfl
    · rintro ρ ⟨s5, h5, rfl⟩
      have e : ((RR m i).take (rsD (RR m i)).length).flatMap (stepR m) = RR m (i + 1) := by
        rw [rsD_len, List.take_length]; rfl
      refine ⟨trivial, ?_⟩
      show b__law_all_rows_l1t2 A _ [.shr (.int m), .shr (.int n), .own (.lst (LD m i)), .shr (.int (i : Nat)), .own (.lst (rsD (((RR m i).take (rsD (RR m i)).length).flatMap (stepR m)))), s5, .emp]
      rw [e]
      refine ⟨rfl, by rw [LD_len, sizeLine_eq]; omega, ?_⟩
      refine hN _ ⟨.shr (.int (i : Nat)), .shr (.lst (rsD (RR m (i + 1)))), s5, rfl, rfl, h5, ?_⟩
      rw [LD_snoc]; rfl
  · rintro ρ ⟨s3, s4, s5, h3, h4, h5, rfl⟩
    have e : (rngD 0 1 ((n : Nat) : Int).toNat).length = n := by rw [rngD_len]; omega
    refine ⟨trivial, ?_⟩
    show QO (.lst (LD m (rngD 0 1 ((n : Nat) : Int).toNat).length)) _
    rw [e]
    exact h
def sp__law_unlike_rows (A : Ad) : S3 := fun ds QR _ => ∃ (f : Fm) (old new : List Int), ds = [rowD old, .lst (psD (ids f old)), rowD new, .lst (psD (ids f new))] ∧ old.length ≤ 5 ∧ new.length ≤ 5 ∧ ∀ b : Bool, (b = true ↔ Unl f old new) → QR (.bl b) ds
def b__law_unlike_rows_l1l2 (A : Ad) : T3S := (sIf (fTst (eOp (oEq true) (eOp (oEq false) (eOp oIdx (eVar 1) (eVar 4)) (eOp oIdx (eVar 3) (eVar 5))) (eOp (oEq false) (eOp oIdx (eVar 0) (eVar 4)) (eOp oIdx (eVar 2) (eVar 5)))))
 (sRet (eC (.bl true)))
 sNext)
def b__law_unlike_rows_l1 (A : Ad) : T3S := (sFor (iR1 (aCons (eCB cLen (aCons (eVar 2) aNil)) aNil)) (gN 5)
 (b__law_unlike_rows_l1l2 A))
def b__law_unlike_rows_t1 (A : Ad) : T3S := (sRet (eC (.bl false)))
def b__law_unlike_rows (A : Ad) : T3S := (sSeq (sFor (iR1 (aCons (eCB cLen (aCons (eVar 0) aNil)) aNil)) (gN 4)
 (b__law_unlike_rows_l1 A))
 (b__law_unlike_rows_t1 A))
theorem t__law_unlike_rows (A : Ad) : ∀ ds QR QO, sp__law_unlike_rows A ds QR QO → ds.length = 4 → b__law_unlike_rows A (endE [.shr, .shr, .shr, .shr] ds QR QO) (startE 2 [.shr, .shr, .shr, .shr] ds) := by
  rintro ds QR QO ⟨f, old, new, rfl, lo, ln, h⟩ _
  refine ⟨⟨by omega, by rw [iD_len]; omega⟩, ?_⟩
  refine for_inv (fun i ρ => ∃ s5 s6, s5.locked = false ∧ s6.locked = false ∧ (∀ (i' j : Nat) (hi : i' < old.length) (hj : j < new.length), i' < i → ((ids f old)[i']? = (ids f new)[j]? ↔ old[i'] = new[j])) ∧ ρ = [.shr (rowD old), .shr (.lst (psD (ids f old))), .shr (rowD new), .shr (.lst (psD (ids f new))), s5, s6]) _ ?_ ?_ ⟨.emp, .emp, rfl, rfl, fun _ _ _ _ z => absurd z (Nat.not_lt_zero _), rfl⟩
  · rintro i d ρ N hd ⟨s5, s6, h5, h6, inv, rfl⟩ hN
    obtain ⟨hi, rfl⟩ := rng_get hd
    have hi : i < old.length := by
      have : i < ((iD old).length : Int).toNat := hi
      rw [iD_len] at this; omega
    refine ⟨unF h5, ?_⟩
    refine ⟨⟨by omega, by rw [iD_len]; omega⟩, ?_⟩
    refine for_inv (fun j ρ => ∃ s6, s6.locked = false ∧ (∀ (j' : Nat) (hj : j' < new.length), j' < j → ((ids f old)[i]? = (ids f new)[j']? ↔ old[i] = new[j'])) ∧ ρ = [.shr (rowD old), .shr (.lst (psD (ids f old))), .shr (rowD new), .shr (.lst (psD (ids f new))), .shr (.int (i : Nat)), s6]) _ ?_ ?_ ⟨s6, h6, fun _ _ z => absurd z (Nat.not_lt_zero _), rfl⟩
    · rintro j d ρ N2 hd ⟨s6, h6, inv2, rfl⟩ hN2
      obtain ⟨hj, rfl⟩ := rng_get hd
      have hj : j < new.length := by
        have : j < ((iD new).length : Int).toNat := hj
        rw [iD_len] at this; omega
      refine ⟨unF h6, ?_⟩
      have hi2 : i < (ids f old).length := by rw [ids_len]; exact hi
      have hj2 : j < (ids f new).length := by rw [ids_len]; exact hj
      refine wo_in (psD_at hi2) (wo_in (psD_at hj2) ⟨rfl, rfl, wo_in (rowD_at hi) (wo_in (rowD_at hj) ⟨rfl, rfl, rfl, rfl, ?_⟩)⟩)
      have e1 : ((ids f old)[i]? = (ids f new)[j]?) = ((ids f old)[i] = (ids f new)[j]) := by
        rw [List.getElem?_eq_getElem hi2, List.getElem?_eq_getElem hj2]; simp
      have key : (!(D.eqv (.bl (D.eqv (pD (ids f old)[i]) (pD (ids f new)[j]))) (.bl (D.eqv (.int old[i]) (.int new[j]))))) = true ↔ ¬ ((ids f old)[i]? = (ids f new)[j]? ↔ old[i] = new[j]) := by
        rw [e1, eqp, eqi']
        show (!(decide _ == decide _)) = true ↔ _
        by_cases z1 : (ids f old)[i] = (ids f new)[j] <;> by_cases z2 : old[i] = new[j] <;> simp [z1, z2]
      refine ifs (fun z => ?_) fun z => hN2 _ ⟨.shr (.int (j : Nat)), rfl, fun j' hj' hlt => ?_, rfl⟩
      · exact ⟨trivial, trivial, h true ⟨fun _ => ⟨i, j, hi, hj, key.mp z⟩, fun _ => rfl⟩⟩
      · by_cases e : j' < j
        · exact inv2 j' hj' e
        · have e : j' = j := by omega
          subst e
          exact Classical.byContradiction fun n => z (key.mpr n)
    · rintro ρ ⟨s6, h6, inv2, rfl⟩
      refine ⟨trivial, hN _ ⟨.shr (.int (i : Nat)), s6, rfl, h6, fun i' j hi' hj hlt => ?_, rfl⟩⟩
      by_cases e : i' < i
      · exact inv i' j hi' hj e
      · have e : i' = i := by omega
        subst e
        exact inv2 j hj (by rw [rngD_len]; show j < ((iD new).length : Int).toNat; rw [iD_len]; omega)
  · rintro ρ ⟨s5, s6, h5, h6, inv, rfl⟩
    refine ⟨trivial, h false ⟨fun z => (nomatch z), fun ⟨i, j, hi, hj, n⟩ => absurd (inv i j hi hj ?_) n⟩⟩
    rw [rngD_len]; show i < ((iD old).length : Int).toNat; rw [iD_len]; omega
end K28
end L3

set_option pp.maxSteps 3000
set_option Elab.async false
set_option linter.all false
set_option maxRecDepth 100000
set_option autoImplicit false
set_option maxHeartbeats 0
namespace L3
open PySem PySem.Spec L2
namespace K28
open PyProof.Rows (b2i)
theorem least {p : Nat → Prop} (h : ∃ n, p n) : ∃ n, p n ∧ ∀ m < n, ¬ p m := by
  obtain ⟨n, hn⟩ := h
  induction n using Nat.strongRecOn with
  | ind n ih =>
    by_cases q : ∃ m, m < n ∧ p m
    · obtain ⟨m, hm, pm⟩ := q
      exact ih m hm pm
    · exact ⟨n, hn, fun m hm pm => q ⟨m, hm, pm⟩⟩
theorem fst2_ex {P : List Int → List Int → Prop} {os ns : List (List Int)} (h : ∃ o ∈ os, ∃ n ∈ ns, P o n) : ∃ i j o n, Fst2 P os ns i j o n := by
  obtain ⟨o, ho, n, hn, pk⟩ := h
  obtain ⟨i, hi⟩ := List.mem_iff_getElem?.mp ho
  obtain ⟨i, ⟨o, hi, n, hn, pk⟩, mi⟩ := least (p := fun i => ∃ o, os[i]? = some o ∧ ∃ n ∈ ns, P o n) ⟨i, o, hi, n, hn, pk⟩
  obtain ⟨j, hj⟩ := List.mem_iff_getElem?.mp hn
  obtain ⟨j, ⟨n, hj, pk⟩, mj⟩ := least (p := fun j => ∃ n, ns[j]? = some n ∧ P o n) ⟨j, n, hj, pk⟩
  exact ⟨i, j, o, n, hi, hj, pk, fun i' o' hl e n' hn' z => mi i' hl ⟨o', e, n', hn', z⟩, fun j' n' hl e z => mj j' hl ⟨n', e, z⟩⟩
def NoU (f : Fm) (m a b : Nat) : Prop := ∀ o ∈ RR m a, ∀ n ∈ RR m b, ¬ Unl f o n
structure FstT (f : Fm) (m pl T l : Nat) (o n : List Int) : Prop where
  hT : T ≤ 2 * pl
  hl : l ≤ pl
  hlT : l ≤ T
  hr : T - l ≤ pl
  two : ∃ i j, Fst2 (Unl f) (RR m l) (RR m (T - l)) i j o n
  fT : ∀ T' < T, ∀ l' ≤ pl, l' ≤ T' → T' - l' ≤ pl → NoU f m l' (T' - l')
  fl : ∀ l' < l, T - l' ≤ pl → NoU f m l' (T - l')
theorem Fst2.no {f : Fm} {m a b : Nat} {i j : Nat} {o n : List Int} (h : Fst2 (Unl f) (RR m a) (RR m b) i j o n) : ¬ NoU f m a b := fun z => z o (List.mem_of_getElem? h.io) n (List.mem_of_getElem? h.jn) h.p
theorem FstT.uniq {f : Fm} {m pl T l T' l' : Nat} {o n o' n' : List Int} (a : FstT f m pl T l o n) (b : FstT f m pl T' l' o' n') : o = o' ∧ n = n' := by
  obtain ⟨i, j, ha⟩ := a.two
  obtain ⟨i', j', hb⟩ := b.two
  have eT : T = T' := by
    rcases Nat.lt_trichotomy T T' with h | h | h
    · exact absurd (b.fT T h l a.hl a.hlT a.hr) ha.no
    · exact h
    · exact absurd (a.fT T' h l' b.hl b.hlT b.hr) hb.no
  subst eT
  have el : l = l' := by
    rcases Nat.lt_trichotomy l l' with h | h | h
    · exact absurd (b.fl l h a.hr) ha.no
    · exact h
    · exact absurd (a.fl l' h b.hr) hb.no
  subst el
  exact ha.uniq hb
theorem fstT_ex {f : Fm} {m pl a b : Nat} (ha : a ≤ pl) (hb : b ≤ pl) (h : ¬ NoU f m a b) : ∃ T l o n, FstT f m pl T l o n := by
  obtain ⟨T, ⟨l, hl, hlT, hr, hn⟩, mT⟩ := least (p := fun T => ∃ l, l ≤ pl ∧ l ≤ T ∧ T - l ≤ pl ∧ ¬ NoU f m l (T - l)) ⟨a + b, a, ha, Nat.le_add_right .., by rw [Nat.add_sub_cancel_left]; exact hb, by rw [Nat.add_sub_cancel_left]; exact h⟩
  obtain ⟨l, ⟨hl, hlT, hr, hn⟩, ml⟩ := least (p := fun l => l ≤ pl ∧ l ≤ T ∧ T - l ≤ pl ∧ ¬ NoU f m l (T - l)) ⟨l, hl, hlT, hr, hn⟩
  obtain ⟨i, j, o, n, h2⟩ := fst2_ex (P := Unl f) (os := RR m l) (ns := RR m (T - l)) (Classical.byContradiction fun z => hn fun o ho n hn' u => z ⟨o, ho, n, hn', u⟩)
  exact ⟨T, l, o, n, by omega, hl, hlT, hr, ⟨i, j, h2⟩, fun T' h l' h1 h2 h3 => Classical.byContradiction fun z => mT T' h ⟨l', h1, h2, h3, z⟩, fun l' h h3 => Classical.byContradiction fun z => ml l' h ⟨by omega, by omega, h3, z⟩⟩
theorem ids_one (f : Fm) (a : Int) : ids f [a] = [(f.val a 0, 0)] := rfl
theorem ids_fst {f : Fm} {r : List Int} {k : Nat} (h : k < r.length) : ∃ c, (ids f r)[k]? = some (f.val (r.getD k 0) (k : Nat), c) := by
  have e : (ids f r).map (·.1) = vals f r := prG_fst _ _
  have hk : k < (ids f r).length := by rw [ids_len]; exact h
  have e2 : ((ids f r).map (·.1))[k]? = (vals f r)[k]? := by rw [e]
  rw [List.getElem?_map, List.getElem?_eq_getElem hk] at e2
  have e3 : (vals f r)[k]? = some (f.val (r.getD k 0) (k : Nat)) := by
    unfold vals
    rw [List.getElem?_map, List.getElem?_zipIdx, List.getElem?_eq_getElem h]
    simp [h]
  rw [e3] at e2
  refine ⟨((ids f r)[k]).2, ?_⟩
  rw [List.getElem?_eq_getElem hk]
  have := Option.some.inj e2
  rw [← this]
theorem one_RR {m : Nat} {a : Int} (h : 0 ≤ a ∧ a < m) : [a] ∈ RR m 1 := mem_RR.mpr ⟨rfl, List.nodup_cons.mpr ⟨fun z => (nomatch z), List.nodup_nil⟩, fun x hx => by rw [List.mem_singleton] at hx; subst hx; exact h⟩
/-- what no single item parts from a row -/
theorem one_no {f : Fm} {a : Int} {r : List Int} (h : ¬ Unl f [a] r) {j : Nat} (hj : j < r.length) : (ids f r)[j]? = some (f.val a 0, 0) ↔ r.getD j 0 = a := by
  have := Classical.byContradiction fun z => h ⟨0, j, Nat.one_pos, hj, z⟩
  rw [ids_one] at this
  have e : r[j] = r.getD j 0 := by simp [hj]
  rw [e] at this
  have this : some (f.val a 0, (0 : Int)) = (ids f r)[j]? ↔ a = r.getD j 0 := this
  constructor
  · intro z; exact (this.mp z.symm).symm
  · intro z; exact (this.mpr z.symm).symm
theorem red {f : Fm} {m pl l k : Nat} (hl : l ≤ pl) (hk : k ≤ pl) {o n : List Int} (ho : o ∈ RR m l) (hn : n ∈ RR m k) (u : Unl f o n) : ∃ a q, [a] ∈ RR m 1 ∧ q ≤ pl ∧ 1 + q ≤ l + k ∧ ∃ n' ∈ RR m q, Unl f [a] n' := by
  have zo := mem_RR.mp ho
  have zn := mem_RR.mp hn
  obtain ⟨i, j, hi, hj, nu⟩ := u
  have li := zo.len
  have lj := zn.len
  have io := zo.it _ (List.getElem_mem hi)
  have jn := zn.it _ (List.getElem_mem hj)
  refine Classical.byContradiction fun z => nu ?_
  have no : ∀ a q n', (0 ≤ a ∧ a < (m : Int)) → q ≤ pl → 1 + q ≤ l + k → n' ∈ RR m q → ¬ Unl f [a] n' := fun a q n' h1 h2 h3 h4 h5 => z ⟨a, q, one_RR h1, h2, h3, n', h4, h5⟩
  have ei : o.getD i 0 = o[i] := by simp [hi]
  have ej : n.getD j 0 = n[j] := by simp [hj]
  have h1 := (one_no (no o[i] l o io hl (by omega) ho) hi).mpr ei
  have h2 := (one_no (no n[j] k n jn hk (by omega) hn) hj).mpr ej
  have h3 := one_no (no o[i] 1 [n[j]] io (by omega) (by omega) (one_RR jn)) (j := 0) Nat.one_pos
  rw [h1, h2]
  rw [ids_one] at h3
  have h3 : some (f.val n[j] 0, (0 : Int)) = some (f.val o[i] 0, 0) ↔ n[j] = o[i] := h3
  constructor
  · intro e; exact (h3.mp e.symm).symm
  · intro e; exact (h3.mpr e.symm).symm
theorem FstT.one {f : Fm} {m pl T l : Nat} {o n : List Int} (a : FstT f m pl T l o n) : l = 1 := by
  obtain ⟨i, j, h⟩ := a.two
  have ho := List.mem_of_getElem? h.io
  have hn := List.mem_of_getElem? h.jn
  obtain ⟨x, q, h1, h2, h3, n', h4, u⟩ := red a.hl a.hr ho hn h.p
  have h3 : 1 + q ≤ T := by have := a.hlT; omega
  have hl : 0 < l := by
    obtain ⟨i, j, hi, hj, _⟩ := h.p
    rw [(mem_RR.mp ho).len] at hi
    omega
  have := a.hl
  by_cases e : 1 + q < T
  · exact absurd u (a.fT (1 + q) e 1 (by omega) (by omega) (by omega) [x] h1 n' (by rw [Nat.add_sub_cancel_left]; exact h4))
  · have e : T = 1 + q := by omega
    by_cases e2 : 1 < l
    · exact absurd u (a.fl 1 e2 (by omega) [x] h1 n' (by rw [e, Nat.add_sub_cancel_left]; exact h4))
    · omega
structure Plain (f : Fm) (m pl : Nat) : Prop where
  at_ : ∀ i < m, ∀ k < min pl m, f.val (i : Nat) (k : Nat) = f.val (i : Nat) 0
  inj : ∀ i j, i < j → j < m → f.val (i : Nat) 0 ≠ f.val (j : Nat) 0
theorem prG_nodup : ∀ (xs pre : List Int), xs.Nodup → (∀ x ∈ xs, x ∉ pre) → prG pre xs = xs.map fun x => (x, 0)
  | [], _, _, _ => rfl
  | x :: xs, pre, nd, h => by
    have nd := List.nodup_cons.mp nd
    have hx := h x (List.mem_cons_self ..)
    show (x, ((pre.count x : Nat) : Int)) :: prG (pre ++ [x]) xs = _
    rw [List.count_eq_zero.mpr hx, prG_nodup xs (pre ++ [x]) nd.2 fun y hy z => by
      rcases List.mem_append.mp z with z | z
      · exact h y (List.mem_cons_of_mem _ hy) z
      · rw [List.mem_singleton] at z; subst z; exact nd.1 hy]
    rfl
theorem len_le {m n : Nat} {r : List Int} (h : Rz m n r) : n ≤ m := by
  have := nodup_len (r := (List.range m).map fun (k : Nat) => (k : Int)) h.nd fun x hx => by
    have := h.it x hx
    exact List.mem_map.mpr ⟨x.toNat, List.mem_range.mpr (by omega), by omega⟩
  rw [h.len, List.length_map, List.length_range] at this
  exact this
theorem Plain.inj' {f : Fm} {m pl : Nat} (h : Plain f m pl) {x y : Int} (hx : 0 ≤ x ∧ x < m) (hy : 0 ≤ y ∧ y < m) (e : f.val x 0 = f.val y 0) : x = y := by
  have ex : x = ((x.toNat : Nat) : Int) := by omega
  have ey : y = ((y.toNat : Nat) : Int) := by omega
  rcases Nat.lt_trichotomy x.toNat y.toNat with z | z | z
  · have := h.inj _ _ z (by omega); rw [← ex, ← ey] at this; exact absurd e this
  · omega
  · have := h.inj _ _ z (by omega); rw [← ex, ← ey] at this; exact absurd e.symm this
theorem Plain.ids {f : Fm} {m pl n : Nat} (h : Plain f m pl) (hn : n ≤ pl) {r : List Int} (z : Rz m n r) : ids f r = r.map fun x => (f.val x 0, 0) := by
  have hm := len_le z
  have ev : vals f r = r.map fun x => f.val x 0 := by
    apply List.ext_getElem?
    intro k
    by_cases hk : k < r.length
    · have hx := z.it _ (List.getElem_mem hk)
      have hl := z.len
      have e : r[k] = ((r[k].toNat : Nat) : Int) := by omega
      have ha := h.at_ r[k].toNat (by omega) k (by omega)
      rw [← e] at ha
      unfold vals
      rw [List.getElem?_map, List.getElem?_zipIdx, List.getElem?_map, List.getElem?_eq_getElem hk]
      simpa using ha
    · rw [List.getElem?_eq_none (by rw [vals_len]; omega), List.getElem?_eq_none (by rw [List.length_map]; omega)]
  unfold K28.ids
  rw [ev, prG_nodup (r.map fun x => f.val x 0) [] ?_ (fun x _ z => by cases z), List.map_map]
  · rfl
  · exact List.pairwise_map.mpr (List.Pairwise.imp_of_mem (fun {a b} ha hb n e => n (h.inj' (z.it a ha) (z.it b hb) e)) z.nd)
theorem Plain.no {f : Fm} {m pl : Nat} (h : Plain f m pl) {a b : Nat} (ha : a ≤ pl) (hb : b ≤ pl) : NoU f m a b := by
  rintro o ho n hn ⟨i, j, hi, hj, z⟩
  have zo := mem_RR.mp ho
  have zn := mem_RR.mp hn
  apply z
  rw [h.ids ha zo, h.ids hb zn, List.getElem?_map, List.getElem?_map, List.getElem?_eq_getElem hi, List.getElem?_eq_getElem hj]
  constructor
  · intro e
    have e : f.val o[i] 0 = f.val n[j] 0 := congrArg Prod.fst (Option.some.inj e)
    exact h.inj' (zo.it _ (List.getElem_mem hi)) (zn.it _ (List.getElem_mem hj)) e
  · intro e; rw [e]
theorem plain_of {f : Fm} {m pl : Nat} (hp : 1 ≤ pl) (h : ∀ a ≤ pl, ∀ b ≤ pl, NoU f m a b) : Plain f m pl := by
  constructor
  · intro i hi k hk
    have hk1 : k < pl := by omega
    have hk2 : k < m := by omega
    obtain ⟨r, hr, er⟩ : ∃ r, Rz m (k + 1) r ∧ r.getD k 0 = (i : Int) := by
      let s : List Nat := (List.range m).filter fun x => decide (x ≠ i)
      have nds : s.Nodup := List.Pairwise.filter _ List.nodup_range
      have ms : ∀ x ∈ s, x < m ∧ x ≠ i := fun x hx => by
        have := List.mem_filter.mp hx
        exact ⟨List.mem_range.mp this.1, of_decide_eq_true this.2⟩
      have ls : m - 1 ≤ s.length := by
        have e : List.range m = List.range i ++ i :: (List.range (m - i - 1)).map (i + 1 + ·) := by
          have : m = i + (1 + (m - i - 1)) := by omega
          conv => lhs; rw [this, List.range_add, List.range_add]
          rw [List.map_append]
          simp [Nat.add_assoc, Function.comp_def]
        show m - 1 ≤ ((List.range m).filter fun x => decide (x ≠ i)).length
        rw [e, List.filter_append, List.length_append, List.filter_cons_of_neg (by simp)]
        rw [List.filter_eq_self.mpr fun x hx => by have := List.mem_range.mp hx; simp; omega]
        rw [List.filter_eq_self.mpr fun x hx => by
          obtain ⟨y, _, rfl⟩ := List.mem_map.mp hx
          simp; omega]
        rw [List.length_range, List.length_map, List.length_range]
        omega
      have lt : (s.take k).length = k := by rw [List.length_take]; omega
      refine ⟨((s.take k).map fun (x : Nat) => (x : Int)) ++ [(i : Int)], ⟨by rw [List.length_append, List.length_map, lt]; rfl, ?_, fun x hx => ?_⟩, ?_⟩
      · rw [List.nodup_append]
        refine ⟨List.pairwise_map.mpr (List.Pairwise.imp (fun n e => n (by omega)) (nds.sublist (List.take_sublist _ _))), List.nodup_cons.mpr ⟨fun z => (nomatch z), List.nodup_nil⟩, fun a ha b hb e => ?_⟩
        rw [List.mem_singleton] at hb
        obtain ⟨y, hy, rfl⟩ := List.mem_map.mp ha
        have := (ms y (List.mem_of_mem_take hy)).2
        omega
      · rcases List.mem_append.mp hx with z | z
        · obtain ⟨y, hy, rfl⟩ := List.mem_map.mp z
          have := (ms y (List.mem_of_mem_take hy)).1
          omega
        · rw [List.mem_singleton] at z; subst z; omega
      · rw [List.getD_eq_getElem?_getD, List.getElem?_append_right (by rw [List.length_map, lt]; exact Nat.le_refl _), List.length_map, lt, Nat.sub_self]
        rfl
    have hkr : k < r.length := by rw [hr.len]; omega
    have nu := h 1 hp (k + 1) hk1 [(i : Int)] (one_RR ⟨by omega, by omega⟩) r (mem_RR.mpr hr)
    have e1 := (one_no nu hkr).mpr er
    obtain ⟨c, e2⟩ := ids_fst (f := f) hkr
    rw [e1, er] at e2
    exact (congrArg Prod.fst (Option.some.inj e2)).symm
  · intro i j hij hj e
    have nu := h 1 hp 1 hp [(i : Int)] (one_RR ⟨by omega, by omega⟩) [(j : Int)] (one_RR ⟨by omega, by omega⟩)
    have := (one_no nu (j := 0) Nat.one_pos).mp (by rw [ids_one, e]; rfl)
    have this : (j : Int) = (i : Int) := this
    omega
theorem unl_self {f : Fm} {o : List Int} (h : Row o) : ¬ Unl f o o := by
  rintro ⟨i, j, hi, hj, z⟩
  apply z
  have hi2 : i < (ids f o).length := by rw [ids_len]; exact hi
  have hj2 : j < (ids f o).length := by rw [ids_len]; exact hj
  rw [List.getElem?_eq_getElem hi2, List.getElem?_eq_getElem hj2]
  rw [nd_inj h.nd hi hj]
  constructor
  · intro e; exact (nd_inj (ids_nd f o) hi2 hj2).mp (Option.some.inj e)
  · intro e; subst e; rfl
end K28
end L3

set_option pp.maxSteps 3000
set_option Elab.async false
set_option linter.all false
set_option maxRecDepth 100000
set_option autoImplicit false
set_option maxHeartbeats 0
namespace L3
open PySem PySem.Spec L2
namespace K28
open PyProof.Rows (b2i)
def mkD (f : Fm) (ns : List (List Int)) : List D := ns.map fun r => D.lst (psD (ids f r))
def sp__law_first_of (A : Ad) : S3 := fun ds QR _ => ∃ (f : Fm) (os ns : List (List Int)), ds = [f.d, .lst (rsD os), .lst (rsD ns)] ∧ f.dep ≤ 7 ∧ (∀ r ∈ os, Row r) ∧ (∀ r ∈ ns, Row r) ∧ ns.length ≤ 256 ∧
  ((∀ o ∈ os, ∀ n ∈ ns, ¬ Unl f o n) → QR (.lst []) ds) ∧ (∀ i j o n, Fst2 (Unl f) os ns i j o n → QR (.lst [rowD o, rowD n]) ds)
def b__law_first_of_l1l2 (A : Ad) : T3S := (sIf (fTru (eCall [.shr, .shr, .shr, .shr] (sp__law_unlike_rows A) (aCons (eVar 4) (aCons (eVar 5) (aCons (eOp oIdx (eVar 2) (eVar 6)) (aCons (eOp oIdx (eVar 3) (eVar 6)) aNil))))))
 (sRet (eLst (aCons (eVar 4) (aCons (eOp oIdx (eVar 2) (eVar 6)) aNil))))
 sNext)
def b__law_first_of_l1t1 (A : Ad) : T3S := (sFor (iR1 (aCons (eCB cLen (aCons (eVar 2) aNil)) aNil)) (gN 6)
 (b__law_first_of_l1l2 A))
def b__law_first_of_l1 (A : Ad) : T3S := (sSeq (sAsg (eCall [.shr, .shr] (sp__law_idents A) (aCons (eVar 0) (aCons (eVar 4) aNil))) (gN 5))
 (b__law_first_of_l1t1 A))
def b__law_first_of_t2 (A : Ad) : T3S := (sRet (eLst aNil))
def b__law_first_of_t1 (A : Ad) : T3S := (sSeq (sFor (iS (eVar 1)) (gN 4)
 (b__law_first_of_l1 A))
 (b__law_first_of_t2 A))
def b__law_first_of (A : Ad) : T3S := (sSeq (sAsg (eShr (oLc (iS (eVar 2)) (gN 7) fYes (eCall [.shr, .shr] (sp__law_idents A) (aCons (eVar 0) (aCons (eVar 7) aNil))) [7])) (gN 3))
 (b__law_first_of_t1 A))
theorem t__law_first_of (A : Ad) : ∀ ds QR QO, sp__law_first_of A ds QR QO → ds.length = 3 → b__law_first_of A (endE [.shr, .shr, .shr] ds QR QO) (startE 5 [.shr, .shr, .shr] ds) := by
  rintro ds QR QO ⟨f, os, ns, rfl, hf, hr, hr2, hl, hy, hno⟩ _
  refine lc_of (ρ := [.shr f.d, .shr (.lst (rsD os)), .shr (.lst (rsD ns)), .emp, .emp, .emp, .emp, .emp]) ns rowD (fun r => some (.lst (psD (ids f r)))) rfl rfl (by rw [sizeLine_eq]; omega) (fun r hrm acc N hl hN => ⟨rfl, rfl, f, r, rfl, hf, (hr2 r hrm).len, hl, hN⟩) ⟨trivial, rfl, ?_⟩
  rw [fm_all]
  show b__law_first_of_t1 A _ [.shr f.d, .shr (.lst (rsD os)), .shr (.lst (rsD ns)), .shr (.lst (mkD f ns)), .emp, .emp, .emp, .emp]
  refine for_inv (fun i ρ => ∃ s4 s5 s6, s4.locked = false ∧ s5.locked = false ∧ s6.locked = false ∧ (∀ (i' : Nat) (o' : List Int), i' < i → os[i']? = some o' → ∀ n' ∈ ns, ¬ Unl f o' n') ∧ ρ = [.shr f.d, .shr (.lst (rsD os)), .shr (.lst (rsD ns)), .shr (.lst (mkD f ns)), s4, s5, s6, .emp]) _ ?_ ?_ ⟨.emp, .emp, .emp, rfl, rfl, rfl, fun _ _ h => absurd h (Nat.not_lt_zero _), rfl⟩
  · rintro i d ρ N hd ⟨s4, s5, s6, h4, h5, h6, inv, rfl⟩ hN
    obtain ⟨o, ho, rfl⟩ := map_getS hd
    have hro := hr _ (List.mem_of_getElem? ho)
    refine ⟨unF h4, rfl, f, o, rfl, hf, hro.len, unF h5, ⟨by omega, by rw [rsD_len]; omega⟩, ?_⟩
    refine for_inv (fun j ρ => ∃ s6, s6.locked = false ∧ (∀ (j' : Nat) (n' : List Int), j' < j → ns[j']? = some n' → ¬ Unl f o n') ∧ ρ = [.shr f.d, .shr (.lst (rsD os)), .shr (.lst (rsD ns)), .shr (.lst (mkD f ns)), .shr (rowD o), .shr (.lst (psD (ids f o))), s6, .emp]) _ ?_ ?_ ⟨s6, h6, fun _ _ h => absurd h (Nat.not_lt_zero _), rfl⟩
    · rintro j d ρ N2 hd ⟨s6, h6, inv2, rfl⟩ hN2
      obtain ⟨hj, rfl⟩ := rng_get hd
      have hj : j < ns.length := by
        have : j < ((rsD ns).length : Int).toNat := hj
        rw [rsD_len] at this; omega
      obtain ⟨n, hn⟩ : ∃ n, ns[j]? = some n := ⟨_, List.getElem?_eq_getElem hj⟩
      have hrn := hr2 _ (List.mem_of_getElem? hn)
      have e1 : L2.atI (rsD ns) (j : Int) = some (rowD n) := atI_nat (by unfold rsD; rw [List.getElem?_map, hn]; rfl)
      have e2 : L2.atI (mkD f ns) (j : Int) = some (.lst (psD (ids f n))) := atI_nat (by unfold mkD; rw [List.getElem?_map, hn]; rfl)
      refine ⟨unF h6, wo_in e1 (wo_in e2 ⟨rfl, f, o, n, rfl, hro.len, hrn.len, fun b hb => ?_⟩)⟩
      refine ifs (fun z => ?_) fun z => hN2 _ ⟨.shr (.int (j : Nat)), rfl, fun j' n' hj en => ?_, rfl⟩
      · refine wo_in e1 ⟨sz _ rfl, trivial, trivial, hno i j o n ⟨ho, hn, hb.mp z, inv, inv2⟩⟩
      · by_cases e : j' = j
        · subst e
          rw [hn] at en; cases en
          exact fun q => z (hb.mpr q)
        · exact inv2 j' n' (by omega) en
    · rintro ρ ⟨s6, h6, inv2, rfl⟩
      have inv2 : ∀ (j' : Nat) (n' : List Int), j' < (rngD 0 1 ((rsD ns).length : Int).toNat).length → ns[j']? = some n' → ¬ Unl f o n' := inv2
      rw [rngD_len, rsD_len] at inv2
      refine ⟨trivial, hN _ ⟨.shr (rowD o), .shr (.lst (psD (ids f o))), s6, rfl, rfl, h6, fun i' o' hi eo => ?_, rfl⟩⟩
      by_cases e : i' = i
      · subst e
        rw [ho] at eo; cases eo
        intro n' hn'
        obtain ⟨j', en'⟩ := List.mem_iff_getElem?.mp hn'
        exact inv2 j' n' (by have := (List.getElem?_eq_some_iff.mp en').1; omega) en'
      · exact inv i' o' (by omega) eo
  · rintro ρ ⟨s4, s5, s6, h4, h5, h6, inv, rfl⟩
    refine ⟨trivial, sz _ rfl, hy fun o ho n hn => ?_⟩
    obtain ⟨i', eo⟩ := List.mem_iff_getElem?.mp ho
    exact inv i' o (by rw [rsD_len]; exact (List.getElem?_eq_some_iff.mp eo).1) eo n hn
def WD (f : Fm) (m i : Nat) : List D := (List.range i).map fun n => D.lst ((RR m n).map (rwD f))
theorem WD_at {f : Fm} {m i n : Nat} (h : n < i) : L2.atI (WD f m i) (n : Int) = some (.lst ((RR m n).map (rwD f))) := atI_nat (by
  unfold WD
  rw [List.getElem?_map, List.getElem?_range h]; rfl)
theorem WD_len (f : Fm) (m i : Nat) : (WD f m i).length = i := by simp [WD]
theorem WD_snoc (f : Fm) (m i : Nat) : WD f m (i + 1) = WD f m i ++ [.lst ((RR m i).map (rwD f))] := by unfold WD; rw [List.range_succ, List.map_append]; rfl
theorem RR_row {m n : Nat} (hm : m ≤ 4) (hn : n ≤ 4) : ∀ r ∈ RR m n, Row r := fun r hr => (mem_RR.mp hr).row (by omega) (by omega)
def sp_least_pair (A : Ad) : S3 := fun ds QR _ => ∃ (f : Fm) (m pl : Nat), ds = [kD A f, .int m, .int pl] ∧ f.dep ≤ 7 ∧ m ≤ 4 ∧ pl ≤ 4 ∧ ((∀ a ≤ pl, ∀ b ≤ pl, NoU f m a b) → QR .non ds) ∧ (∀ T l o n, FstT f m pl T l o n → QR (.tup [rowD o, rowD n]) ds)
def b_least_pair_l1 (A : Ad) : T3S := (sDrop (eBM "list" mAppend (eVar 3) (aCons (eShr (oLc (iS (eCall [.shr, .shr] (sp_rows_of A) (aCons (eVar 1) (aCons (eVar 4) aNil)))) (gN 7) fYes (eTup (aCons (eVar 7) (aCons (eMeth A.Key "idents" [.shr, .shr] (sp_Key_idents A) (eVar 0) (aCons (eVar 7) aNil)) aNil))) [7])) aNil)))
def b_least_pair_l2l3c1t1 (A : Ad) : T3S := (sIf (fTst (eOp (oIsN true) (eVar 6) (eC .non)))
 (sRet (eVar 6))
 sNext)
def b_least_pair_l2l3 (A : Ad) : T3S := (sIf (fTst (eChain oLe oLe (eC (.int 0)) (eOp (oI0 fun i j => .int (i - j)) (eVar 5) (eVar 4)) (eVar 2)))
 (sSeq (sAsg (eCall [.brw, .brw] (sp_first_going_wrong A) (aCons (eOp oIdx (eVar 3) (eVar 4)) (aCons (eOp oIdx (eVar 3) (eOp (oI0 fun i j => .int (i - j)) (eVar 5) (eVar 4))) aNil))) (gN 6))
 (b_least_pair_l2l3c1t1 A))
 sNext)
def b_least_pair_l2 (A : Ad) : T3S := (sFor (iR1 (aCons (eOp oAdd (eVar 2) (eC (.int 1))) aNil)) (gN 4)
 (b_least_pair_l2l3 A))
def b_least_pair_t3 (A : Ad) : T3S := (sRet (eC .non))
def b_least_pair_t2 (A : Ad) : T3S := (sSeq (sFor (iR1 (aCons (eOp oAdd (eOp oMul (eC (.int 2)) (eVar 2)) (eC (.int 1))) aNil)) (gN 5)
 (b_least_pair_l2 A))
 (b_least_pair_t3 A))
def b_least_pair_t1 (A : Ad) : T3S := (sSeq (sFor (iR1 (aCons (eOp oAdd (eVar 2) (eC (.int 1))) aNil)) (gN 4)
 (b_least_pair_l1 A))
 (b_least_pair_t2 A))
def b_least_pair (A : Ad) : T3S := (sSeq (sAsgO (oLst aNil) 3)
 (b_least_pair_t1 A))
theorem t_least_pair (A : Ad) : ∀ ds QR QO, sp_least_pair A ds QR QO → ds.length = 3 → b_least_pair A (endE [.shr, .shr, .shr] ds QR QO) (startE 5 [.shr, .shr, .shr] ds) := by
  rintro ds QR QO ⟨f, m, pl, rfl, hf, hm, hp, hy, hno⟩ _
  refine ⟨sz _ rfl, rfl, ⟨by omega, by omega⟩, ?_⟩
  have e1 : ((pl : Nat) + 1 : Int).toNat = pl + 1 := by omega
  refine for_inv (fun i ρ => ∃ s4, s4.locked = false ∧ ρ = [.shr (kD A f), .shr (.int m), .shr (.int pl), .own (.lst (WD f m i)), s4, .emp, .emp, .emp]) _ ?_ ?_ ⟨.emp, rfl, rfl⟩
  · rintro i d ρ N hd ⟨s4, h4, rfl⟩ hN
    obtain ⟨hi, rfl⟩ := rng_get hd
    have hi : i ≤ pl := by
      have : i < ((pl : Nat) + 1 : Int).toNat := hi
      omega
    have bl := RR_len' hm (show i ≤ 4 by omega)
    refine ⟨unF h4, rfl, rfl, m, i, rfl, hm, by omega, ?_⟩
    refine lc_of (ρ := [.shr (kD A f), .shr (.int m), .shr (.int pl), .own (.lst (WD f m i)), .shr (.int (i : Nat)), .emp, .emp, .emp]) (RR m i) rowD (fun r => some (rwD f r)) rfl rfl (by rw [sizeLine_eq]; omega) (fun r hr acc N hl hN => ⟨rfl, ⟨rfl, rfl⟩, rfl, f, r, rfl, hf, RR_row hm (show i ≤ 4 by omega) r hr, sz _ rfl, hl, hN⟩) ⟨trivial, ?_⟩
    rw [fm_all]
    refine ⟨by rw [WD_len, sizeLine_eq]; omega, ?_⟩
    refine hN _ ⟨.shr (.int (i : Nat)), rfl, ?_⟩
    rw [WD_snoc]; rfl
  · rintro ρ ⟨s4, h4, rfl⟩
    refine ⟨trivial, ?_⟩
    show b_least_pair_t2 A _ [.shr (kD A f), .shr (.int m), .shr (.int pl), .own (.lst (WD f m (rngD 0 1 ((pl : Nat) + 1 : Int).toNat).length)), s4, .emp, .emp, .emp]
    rw [rngD_len, e1]
    refine ⟨cm (by omega), ⟨by omega, by omega⟩, ?_⟩
    have e2 : (2 * (pl : Nat) + 1 : Int).toNat = 2 * pl + 1 := by omega
    refine for_inv (fun T ρ => ∃ s4 s5 s6, s4.locked = false ∧ s5.locked = false ∧ s6.locked = false ∧ (∀ T' < T, ∀ l' ≤ pl, l' ≤ T' → T' - l' ≤ pl → NoU f m l' (T' - l')) ∧ ρ = [.shr (kD A f), .shr (.int m), .shr (.int pl), .own (.lst (WD f m (pl + 1))), s4, s5, s6, .emp]) _ ?_ ?_ ⟨s4, .emp, .emp, h4, rfl, rfl, fun _ h => absurd h (Nat.not_lt_zero _), rfl⟩
    · rintro T d ρ N hd ⟨s4, s5, s6, h4, h5, h6, inv, rfl⟩ hN
      obtain ⟨hT, rfl⟩ := rng_get hd
      have hT : T ≤ 2 * pl := by
        have : T < (2 * (pl : Nat) + 1 : Int).toNat := hT
        omega
      refine ⟨unF h5, ⟨by omega, by omega⟩, ?_⟩
      refine for_inv (fun l ρ => ∃ s4 s6, s4.locked = false ∧ s6.locked = false ∧ (∀ l' < l, l' ≤ T → T - l' ≤ pl → NoU f m l' (T - l')) ∧ ρ = [.shr (kD A f), .shr (.int m), .shr (.int pl), .own (.lst (WD f m (pl + 1))), s4, .shr (.int (T : Nat)), s6, .emp]) _ ?_ ?_ ⟨s4, s6, h4, h6, fun _ h => absurd h (Nat.not_lt_zero _), rfl⟩
      · rintro l d ρ N2 hd ⟨s4, s6, h4, h6, inv2, rfl⟩ hN2
        obtain ⟨hl, rfl⟩ := rng_get hd
        have hl : l ≤ pl := by
          have : l < ((pl : Nat) + 1 : Int).toNat := hl
          omega
        refine ⟨unF h4, ?_⟩
        show if decide ((0 : Int) ≤ ((T : Nat) : Int) - ((l : Nat) : Int)) = true then _ else _
        refine ifs (fun z => ?_) fun z => ?_
        · have hlT : l ≤ T := by have := of_decide_eq_true z; omega
          show if decide (((T : Nat) : Int) - ((l : Nat) : Int) ≤ ((pl : Nat) : Int)) = true then _ else _
          refine ifs (fun z2 => ?_) fun z2 => ?_
          · have hr : T - l ≤ pl := by have := of_decide_eq_true z2; omega
            have ew : L2.atI (WD f m (pl + 1)) (((T : Nat) : Int) - ((l : Nat) : Int)) = some (.lst ((RR m (T - l)).map (rwD f))) := by
              rw [show ((T : Nat) : Int) - ((l : Nat) : Int) = ((T - l : Nat) : Int) by omega]
              exact WD_at (by omega)
            refine wo_in (WD_at (show l < pl + 1 by omega)) (wo_in ew ⟨rfl, f, RR m l, RR m (T - l), rfl, RR_row hm (by omega), RR_row hm (by omega), fun no => ⟨unF h6, ?_⟩, fun i j o n h2 => ⟨unF h6, ?_⟩⟩)
            · refine hN2 _ ⟨.shr (.int (l : Nat)), .shr .non, rfl, rfl, fun l' hl' h1 h3 => ?_, rfl⟩
              by_cases e : l' = l
              · subst e; exact no
              · exact inv2 l' (by omega) h1 h3
            · exact ⟨trivial, trivial, hno T l o n ⟨hT, hl, hlT, hr, ⟨i, j, h2⟩, inv, fun l' h1 h3 => inv2 l' h1 (by omega) h3⟩⟩
          · refine hN2 _ ⟨.shr (.int (l : Nat)), s6, rfl, h6, fun l' hl' h1 h3 => ?_, rfl⟩
            by_cases e : l' = l
            · subst e; exact absurd (decide_eq_true (by omega)) z2
            · exact inv2 l' (by omega) h1 h3
        · refine hN2 _ ⟨.shr (.int (l : Nat)), s6, rfl, h6, fun l' hl' h1 h3 => ?_, rfl⟩
          by_cases e : l' = l
          · subst e; exact absurd (decide_eq_true (by omega)) z
          · exact inv2 l' (by omega) h1 h3
      · rintro ρ ⟨s4, s6, h4, h6, inv2, rfl⟩
        have inv2 : ∀ l' < (rngD 0 1 ((pl : Nat) + 1 : Int).toNat).length, l' ≤ T → T - l' ≤ pl → NoU f m l' (T - l') := inv2
        rw [rngD_len, e1] at inv2
        refine ⟨trivial, hN _ ⟨s4, .shr (.int (T : Nat)), s6, h4, rfl, h6, fun T' hT' l' h1 h2 h3 => ?_, rfl⟩⟩
        by_cases e : T' = T
        · subst e; exact inv2 l' (by omega) h2 h3
        · exact inv T' (by omega) l' h1 h2 h3
    · rintro ρ ⟨s4, s5, s6, h4, h5, h6, inv, rfl⟩
      have inv : ∀ T' < (rngD 0 1 (2 * (pl : Nat) + 1 : Int).toNat).length, ∀ l' ≤ pl, l' ≤ T' → T' - l' ≤ pl → NoU f m l' (T' - l') := inv
      rw [rngD_len, e2] at inv
      refine ⟨trivial, hy fun a ha b hb => ?_⟩
      have := inv (a + b) (by omega) a ha (by omega) (by omega)
      rwa [Nat.add_sub_cancel_left] at this
def sp__law_least (A : Ad) : S3 := fun ds QR _ => ∃ (f : Fm) (m pl : Nat), ds = [f.d, .int m, .int pl] ∧ f.dep ≤ 7 ∧ m ≤ 4 ∧ pl ≤ 4 ∧ ((∀ a ≤ pl, ∀ b ≤ pl, NoU f m a b) → QR (.lst []) ds) ∧ (∀ T l o n, FstT f m pl T l o n → QR (.lst [rowD o, rowD n]) ds)
def b__law_least_l1l2c1t1 (A : Ad) : T3S := (sIf (fTru (eVar 6))
 (sRet (eVar 6))
 sNext)
def b__law_least_l1l2 (A : Ad) : T3S := (sIf (fAnd (fTst (eOp oLe (eC (.int 0)) (eOp (oI0 fun i j => .int (i - j)) (eVar 4) (eVar 5)))) (fTst (eOp oLe (eOp (oI0 fun i j => .int (i - j)) (eVar 4) (eVar 5)) (eVar 2))))
 (sSeq (sAsg (eCall [.shr, .shr, .shr] (sp__law_first_of A) (aCons (eVar 0) (aCons (eOp oIdx (eVar 3) (eVar 5)) (aCons (eOp oIdx (eVar 3) (eOp (oI0 fun i j => .int (i - j)) (eVar 4) (eVar 5))) aNil)))) (gN 6))
 (b__law_least_l1l2c1t1 A))
 sNext)
def b__law_least_l1 (A : Ad) : T3S := (sFor (iR1 (aCons (eOp oAdd (eVar 2) (eC (.int 1))) aNil)) (gN 5)
 (b__law_least_l1l2 A))
def b__law_least_t2 (A : Ad) : T3S := (sRet (eLst aNil))
def b__law_least_t1 (A : Ad) : T3S := (sSeq (sFor (iR1 (aCons (eOp oAdd (eOp oMul (eC (.int 2)) (eVar 2)) (eC (.int 1))) aNil)) (gN 4)
 (b__law_least_l1 A))
 (b__law_least_t2 A))
def b__law_least (A : Ad) : T3S := (sSeq (sAsg (eCall [.shr, .shr] (sp__law_all_rows A) (aCons (eVar 1) (aCons (eVar 2) aNil))) (gN 3))
 (b__law_least_t1 A))
theorem t__law_least (A : Ad) : ∀ ds QR QO, sp__law_least A ds QR QO → ds.length = 3 → b__law_least A (endE [.shr, .shr, .shr] ds QR QO) (startE 4 [.shr, .shr, .shr] ds) := by
  rintro ds QR QO ⟨f, m, pl, rfl, hf, hm, hp, hy, hno⟩ _
  have e1 : ((pl : Nat) + 1 : Int).toNat = pl + 1 := by omega
  have e2 : (2 * (pl : Nat) + 1 : Int).toNat = 2 * pl + 1 := by omega
  refine ⟨rfl, m, pl, rfl, hm, hp, rfl, cm (by omega), ⟨by omega, by omega⟩, ?_⟩
  refine for_inv (fun T ρ => ∃ s4 s5 s6, s4.locked = false ∧ s5.locked = false ∧ s6.locked = false ∧ (∀ T' < T, ∀ l' ≤ pl, l' ≤ T' → T' - l' ≤ pl → NoU f m l' (T' - l')) ∧ ρ = [.shr f.d, .shr (.int m), .shr (.int pl), .shr (.lst (LD m pl)), s4, s5, s6]) _ ?_ ?_ ⟨.emp, .emp, .emp, rfl, rfl, rfl, fun _ h => absurd h (Nat.not_lt_zero _), rfl⟩
  · rintro T d ρ N hd ⟨s4, s5, s6, h4, h5, h6, inv, rfl⟩ hN
    obtain ⟨hT, rfl⟩ := rng_get hd
    have hT : T ≤ 2 * pl := by
      have : T < (2 * (pl : Nat) + 1 : Int).toNat := hT
      omega
    refine ⟨unF h4, ⟨by omega, by omega⟩, ?_⟩
    refine for_inv (fun l ρ => ∃ s5 s6, s5.locked = false ∧ s6.locked = false ∧ (∀ l' < l, l' ≤ T → T - l' ≤ pl → NoU f m l' (T - l')) ∧ ρ = [.shr f.d, .shr (.int m), .shr (.int pl), .shr (.lst (LD m pl)), .shr (.int (T : Nat)), s5, s6]) _ ?_ ?_ ⟨s5, s6, h5, h6, fun _ h => absurd h (Nat.not_lt_zero _), rfl⟩
    · rintro l d ρ N2 hd ⟨s5, s6, h5, h6, inv2, rfl⟩ hN2
      obtain ⟨hl, rfl⟩ := rng_get hd
      have hl : l ≤ pl := by
        have : l < ((pl : Nat) + 1 : Int).toNat := hl
        omega
      refine ⟨unF h5, ?_⟩
      show if decide ((0 : Int) ≤ ((T : Nat) : Int) - ((l : Nat) : Int)) = true then _ else _
      refine ifs (fun z => ?_) fun z => ?_
      · have hlT : l ≤ T := by have := of_decide_eq_true z; omega
        show if decide (((T : Nat) : Int) - ((l : Nat) : Int) ≤ ((pl : Nat) : Int)) = true then _ else _
        refine ifs (fun z2 => ?_) fun z2 => ?_
        · have hr : T - l ≤ pl := by have := of_decide_eq_true z2; omega
          have ew : L2.atI (LD m pl) (((T : Nat) : Int) - ((l : Nat) : Int)) = some (.lst (rsD (RR m (T - l)))) := by
            rw [show ((T : Nat) : Int) - ((l : Nat) : Int) = ((T - l : Nat) : Int) by omega]
            exact LD_at hr
          refine wo_in (LD_at hl) (wo_in ew ⟨rfl, f, RR m l, RR m (T - l), rfl, hf, RR_row hm (by omega), RR_row hm (by omega), RR_len' hm (by omega), fun no => ⟨unF h6, ?_⟩, fun i j o n h2 => ⟨unF h6, ?_⟩⟩)
          · refine hN2 _ ⟨.shr (.int (l : Nat)), .shr (.lst []), rfl, rfl, fun l' hl' h1 h3 => ?_, rfl⟩
            by_cases e : l' = l
            · subst e; exact no
            · exact inv2 l' (by omega) h1 h3
          · exact ⟨trivial, trivial, hno T l o n ⟨hT, hl, hlT, hr, ⟨i, j, h2⟩, inv, fun l' h1 h3 => inv2 l' h1 (by omega) h3⟩⟩
        · refine hN2 _ ⟨.shr (.int (l : Nat)), s6, rfl, h6, fun l' hl' h1 h3 => ?_, rfl⟩
          by_cases e : l' = l
          · subst e; exact absurd (decide_eq_true (by omega)) z2
          · exact inv2 l' (by omega) h1 h3
      · refine hN2 _ ⟨.shr (.int (l : Nat)), s6, rfl, h6, fun l' hl' h1 h3 => ?_, rfl⟩
        by_cases e : l' = l
        · subst e; exact absurd (decide_eq_true (by omega)) z
        · exact inv2 l' (by omega) h1 h3
    · rintro ρ ⟨s5, s6, h5, h6, inv2, rfl⟩
      have inv2 : ∀ l' < (rngD 0 1 ((pl : Nat) + 1 : Int).toNat).length, l' ≤ T → T - l' ≤ pl → NoU f m l' (T - l') := inv2
      rw [rngD_len, e1] at inv2
      refine ⟨trivial, hN _ ⟨.shr (.int (T : Nat)), s5, s6, rfl, h5, h6, fun T' hT' l' h1 h2 h3 => ?_, rfl⟩⟩
      by_cases e : T' = T
      · subst e; exact inv2 l' (by omega) h2 h3
      · exact inv T' (by omega) l' h1 h2 h3
  · rintro ρ ⟨s4, s5, s6, h4, h5, h6, inv, rfl⟩
    have inv : ∀ T' < (rngD 0 1 (2 * (pl : Nat) + 1 : Int).toNat).length, ∀ l' ≤ pl, l' ≤ T' → T' - l' ≤ pl → NoU f m l' (T' - l') := inv
    rw [rngD_len, e2] at inv
    refine ⟨trivial, sz _ rfl, hy fun a ha b hb => ?_⟩
    have := inv (a + b) (by omega) a ha (by omega) (by omega)
    rwa [Nat.add_sub_cancel_left] at this
end K28
end L3

set_option pp.maxSteps 3000
set_option Elab.async false
set_option linter.all false
set_option maxRecDepth 100000
set_option autoImplicit false
set_option maxHeartbeats 0
namespace L3
open PySem PySem.Spec L2
namespace K28
open PyProof.Rows (b2i)
def vsD (f : Fm) (i : Nat) : List Int := (List.range i).map fun (k : Nat) => f.val (k : Nat) 0
theorem vsD_snoc (f : Fm) (i : Nat) : vsD f (i + 1) = vsD f i ++ [f.val (i : Nat) 0] := by unfold vsD; rw [List.range_succ, List.map_append]; rfl
def sp__law_plain (A : Ad) : S3 := fun ds QR _ => ∃ (f : Fm) (m pl : Nat), ds = [f.d, .int m, .int pl] ∧ f.dep ≤ 7 ∧ m ≤ 4 ∧ pl ≤ 4 ∧ ∀ b : Bool, (b = true ↔ Plain f m pl) → QR (.bl b) ds
def b__law_plain_l1l2 (A : Ad) : T3S := (sIf (fTst (eOp (oEq true) (eCall [.shr, .brw] (sp__law_value A) (aCons (eVar 0) (aCons (eShr (oDisp (("item", (eVar 5)) :: (("at", (eVar 7)) :: [])))) aNil))) (eVar 6)))
 (sRet (eC (.bl false)))
 sNext)
def b__law_plain_l1t3 (A : Ad) : T3S := (sDrop (eBM "list" mAppend (eVar 4) (aCons (eVar 6) aNil)))
def b__law_plain_l1t2 (A : Ad) : T3S := (sSeq (sIf (fTst (eOp (oIn false) (eVar 6) (eVar 4)))
 (sRet (eC (.bl false)))
 sNext)
 (b__law_plain_l1t3 A))
def b__law_plain_l1t1 (A : Ad) : T3S := (sSeq (sFor (iR1 (aCons (eVar 3) aNil)) (gN 7)
 (b__law_plain_l1l2 A))
 (b__law_plain_l1t2 A))
def b__law_plain_l1 (A : Ad) : T3S := (sSeq (sAsg (eCall [.shr, .brw] (sp__law_value A) (aCons (eVar 0) (aCons (eShr (oDisp (("item", (eVar 5)) :: (("at", (eC (.int 0))) :: [])))) aNil))) (gN 6))
 (b__law_plain_l1t1 A))
def b__law_plain_t3 (A : Ad) : T3S := (sRet (eC (.bl true)))
def b__law_plain_t2 (A : Ad) : T3S := (sSeq (sFor (iR1 (aCons (eVar 1) aNil)) (gN 5)
 (b__law_plain_l1 A))
 (b__law_plain_t3 A))
def b__law_plain_t1 (A : Ad) : T3S := (sSeq (sAsgO (oLst aNil) 4)
 (b__law_plain_t2 A))
def b__law_plain (A : Ad) : T3S := (sSeq (sAsg (eIf (fTst (eOp oLt (eVar 2) (eVar 1))) (eVar 2) (eVar 1)) (gN 3))
 (b__law_plain_t1 A))
theorem t__law_plain (A : Ad) : ∀ ds QR QO, sp__law_plain A ds QR QO → ds.length = 3 → b__law_plain A (endE [.shr, .shr, .shr] ds QR QO) (startE 5 [.shr, .shr, .shr] ds) := by
  rintro ds QR QO ⟨f, m, pl, rfl, hf, hm, hp, h⟩ _
  have main : ∀ mo : Int, mo = ((min pl m : Nat) : Int) → b__law_plain_t1 A (endE [.shr, .shr, .shr] [f.d, .int m, .int pl] QR QO) [.shr f.d, .shr (.int m), .shr (.int pl), .shr (.int mo), .emp, .emp, .emp, .emp] := by
    rintro _ rfl
    refine ⟨sz _ rfl, rfl, ⟨by omega, by omega⟩, ?_⟩
    refine for_inv (fun i ρ => ∃ s5 s6 s7, s5.locked = false ∧ s6.locked = false ∧ s7.locked = false ∧ (∀ i' < i, ∀ k < min pl m, f.val (i' : Nat) (k : Nat) = f.val (i' : Nat) 0) ∧ (∀ a b : Nat, a < b → b < i → f.val (a : Nat) 0 ≠ f.val (b : Nat) 0) ∧ ρ = [.shr f.d, .shr (.int m), .shr (.int pl), .shr (.int ((min pl m : Nat) : Int)), .own (.lst (iD (vsD f i))), s5, s6, s7]) _ ?_ ?_ ⟨.emp, .emp, .emp, rfl, rfl, rfl, fun _ h => absurd h (Nat.not_lt_zero _), fun _ _ _ h => absurd h (Nat.not_lt_zero _), rfl⟩
    · rintro i d ρ N hd ⟨s5, s6, s7, h5, h6, h7, i1, i2, rfl⟩ hN
      obtain ⟨hi, rfl⟩ := rng_get hd
      have hi : i < m := by
        have : i < ((m : Nat) : Int).toNat := hi
        omega
      refine ⟨unF h5, by show 2 ≤ 15; decide, rfl, f, (i : Nat), 0, rfl, hf, unF h6, ⟨by omega, by omega⟩, ?_⟩
      refine for_inv (fun k ρ => ∃ s7, s7.locked = false ∧ (∀ k' < k, f.val (i : Nat) (k' : Nat) = f.val (i : Nat) 0) ∧ ρ = [.shr f.d, .shr (.int m), .shr (.int pl), .shr (.int ((min pl m : Nat) : Int)), .own (.lst (iD (vsD f i))), .shr (.int (i : Nat)), .shr (.int (f.val (i : Nat) 0)), s7]) _ ?_ ?_ ⟨s7, h7, fun _ h => absurd h (Nat.not_lt_zero _), rfl⟩
      · rintro k d ρ N2 hd ⟨s7, h7, i3, rfl⟩ hN2
        obtain ⟨hk, rfl⟩ := rng_get hd
        have hk : k < min pl m := by
          have : k < (((min pl m : Nat) : Int)).toNat := hk
          omega
        refine ⟨unF h7, by show 2 ≤ 15; decide, rfl, f, (i : Nat), (k : Nat), rfl, hf, rfl, rfl, ?_⟩
        show if (!(D.eqv (.int (f.val (i : Nat) (k : Nat))) (.int (f.val (i : Nat) 0)))) = true then _ else _
        rw [eqi']
        refine ifs (fun z => ?_) fun z => ?_
        · exact ⟨trivial, trivial, h false ⟨fun z => (nomatch z), fun p => absurd (p.at_ i hi k hk) (by simpa using z)⟩⟩
        · refine hN2 _ ⟨.shr (.int (k : Nat)), rfl, fun k' hk' => ?_, rfl⟩
          by_cases e : k' = k
          · subst e; simpa using z
          · exact i3 k' (by omega)
      · rintro ρ ⟨s7, h7, i3, rfl⟩
        have i3 : ∀ k' < (rngD 0 1 ((min pl m : Nat) : Int).toNat).length, f.val (i : Nat) (k' : Nat) = f.val (i : Nat) 0 := i3
        rw [rngD_len, Int.toNat_natCast] at i3
        refine ⟨trivial, rfl, (iD_shp _).1, ?_⟩
        show if ((iD (vsD f i)).any fun z => D.eqv z (.int (f.val (i : Nat) 0))) = true then _ else _
        rw [any_int]
        refine ifs (fun z => ?_) fun z => ?_
        · refine ⟨trivial, h false ⟨fun z => (nomatch z), fun p => ?_⟩⟩
          obtain ⟨a, ha, e⟩ := List.mem_map.mp (of_decide_eq_true z)
          exact absurd e (p.inj a i (List.mem_range.mp ha) hi)
        · refine ⟨rfl, by rw [iD_len, sizeLine_eq]; unfold vsD; rw [List.length_map, List.length_range]; omega, hN _ ⟨.shr (.int (i : Nat)), .shr (.int (f.val (i : Nat) 0)), s7, rfl, rfl, h7, fun i' hi' k hk => ?_, fun a b hab hb => ?_, ?_⟩⟩
          · by_cases e : i' = i
            · subst e; exact i3 k hk
            · exact i1 i' (by omega) k hk
          · by_cases e : b = i
            · subst e
              intro q
              exact z (decide_eq_true (List.mem_map.mpr ⟨a, List.mem_range.mpr hab, q⟩))
            · exact i2 a b hab (by omega)
          · rw [vsD_snoc]
            unfold iD
            rw [List.map_append]; rfl
    · rintro ρ ⟨s5, s6, s7, h5, h6, h7, i1, i2, rfl⟩
      rw [rngD_len, Int.toNat_natCast] at i1 i2
      exact ⟨trivial, h true ⟨fun _ => ⟨i1, i2⟩, fun _ => rfl⟩⟩
  show if decide (((pl : Nat) : Int) < ((m : Nat) : Int)) = true then _ else _
  refine ifs (fun z => ⟨rfl, main _ ?_⟩) fun z => ⟨rfl, main _ ?_⟩
  · have := of_decide_eq_true z; omega
  · have : ¬ ((pl : Nat) : Int) < ((m : Nat) : Int) := fun q => z (decide_eq_true q)
    omega
def AD (m i : Nat) : List D := (List.range i).flatMap fun n => rsD (RR m n)
theorem AD_snoc (m i : Nat) : AD m (i + 1) = AD m i ++ rsD (RR m i) := by unfold AD; rw [List.range_succ, List.flatMap_append]; simp
theorem AD_len {m : Nat} (hm : m ≤ 4) : ∀ i, i ≤ 5 → (AD m i).length ≤ 256 * i
  | 0, _ => by simp [AD]
  | i + 1, hi => by
    rw [AD_snoc, List.length_append, rsD_len]
    have h1 := AD_len hm i (by omega)
    have h2 := RR_len' hm (show i ≤ 4 by omega)
    omega
def Mn (m pl : Nat) (rows : List (List Int)) : Prop := rows.length ≤ 4 ∧ ∀ r ∈ rows, ∃ n ≤ pl, r ∈ RR m n
theorem AD_mem {m i : Nat} {d : D} (h : d ∈ AD m i) : ∃ r n, n < i ∧ r ∈ RR m n ∧ d = rowD r := by
  obtain ⟨n, hn, hd⟩ := List.mem_flatMap.mp h
  obtain ⟨r, hr, rfl⟩ := rsD_mem hd
  exact ⟨r, n, List.mem_range.mp hn, hr, rfl⟩
def sp__law_menu_of (A : Ad) : S3 := fun ds QR _ => ∃ (bag : D) (m pl : Nat), ds = [bag, .int m, .int pl] ∧ isBag bag ∧ m ≤ 4 ∧ pl ≤ 4 ∧ ∀ rows bag', Mn m pl rows → isBag bag' → QR (.tup (rsD rows)) [bag', .int m, .int pl]
def b__law_menu_of_l1 (A : Ad) : T3S := (sDrop (eBM "list" mExtend (eVar 3) (aCons (eVar 4) aNil)))
def b__law_menu_of_t2 (A : Ad) : T3S := (sRet (eCB cTuple (aCons (eShr (oLc (iR1 (aCons (eOp oAdd (eC (.int 1)) (eCall [.par, .shr] (sp__law_pick A) (aCons (eVar 0) (aCons (eC (.int 4)) aNil)))) aNil)) (gN 5) fYes (eCall [.par, .brw] (sp__law_choice A) (aCons (eVar 0) (aCons (eVar 3) aNil))) [5])) aNil)))
def b__law_menu_of_t1 (A : Ad) : T3S := (sSeq (sFor (iS (eCall [.shr, .shr] (sp__law_all_rows A) (aCons (eVar 1) (aCons (eVar 2) aNil)))) (gN 4)
 (b__law_menu_of_l1 A))
 (b__law_menu_of_t2 A))
def b__law_menu_of (A : Ad) : T3S := (sSeq (sAsgO (oLst aNil) 3)
 (b__law_menu_of_t1 A))
theorem t__law_menu_of (A : Ad) : ∀ ds QR QO, sp__law_menu_of A ds QR QO → ds.length = 3 → b__law_menu_of A (endE [.par, .shr, .shr] ds QR QO) (startE 3 [.par, .shr, .shr] ds) := by
  rintro ds QR QO ⟨bag, m, pl, rfl, hb, hm, hp, h⟩ _
  refine ⟨sz _ rfl, rfl, rfl, m, pl, rfl, hm, hp, ?_⟩
  refine for_inv (fun i ρ => ∃ s4, s4.locked = false ∧ ρ = [.par bag, .shr (.int m), .shr (.int pl), .own (.lst (AD m i)), s4, .emp]) _ ?_ ?_ ⟨.emp, rfl, rfl⟩
  · rintro i d ρ N hd ⟨s4, h4, rfl⟩ hN
    have hi : i ≤ pl := by
      have := (List.getElem?_eq_some_iff.mp hd).1
      have : i < (LD m pl).length := this
      rw [LD_len] at this; omega
    have hd : (LD m pl)[i]? = some d := hd
    rw [LD_get hi] at hd
    cases hd
    have al := AD_len hm i (by omega)
    have bl := RR_len' hm (show i ≤ 4 by omega)
    refine ⟨unF h4, rfl, by rw [rsD_len, sizeLine_eq]; omega, hN _ ⟨.shr (.lst (rsD (RR m i))), rfl, ?_⟩⟩
    rw [AD_snoc]; rfl
  · rintro ρ ⟨s4, h4, rfl⟩
    refine ⟨trivial, ?_⟩
    show b__law_menu_of_t2 A _ [.par bag, .shr (.int m), .shr (.int pl), .own (.lst (AD m (LD m pl).length)), s4, .emp]
    rw [LD_len]
    have al := AD_len hm (pl + 1) (by omega)
    have ne : AD m (pl + 1) ≠ [] := by
      intro e
      have : rowD [] ∈ AD m (pl + 1) := List.mem_flatMap.mpr ⟨0, List.mem_range.mpr (by omega), List.mem_map.mpr ⟨[], List.mem_cons_self .., rfl⟩⟩
      rw [e] at this; cases this
    refine ⟨rfl, bag, 4, rfl, hb, ⟨by decide, by decide⟩, fun c bag1 c0 c1 hb1 => ⟨⟨by omega, by omega⟩, ?_⟩⟩
    have e4 : (1 + c : Int).toNat ≤ 4 := by omega
    refine lc_inv (fun i acc ρ => ∃ bag rows, isBag bag ∧ acc = rsD rows ∧ rows.length = i ∧ (∀ r ∈ rows, ∃ n ≤ pl, r ∈ RR m n) ∧ ρ = [.par bag, .shr (.int m), .shr (.int pl), .own (.lst (AD m (pl + 1))), s4, .emp]) _ ?_ ?_ ⟨bag1, [], hb1, rfl, rfl, fun _ h => (nomatch h), rfl⟩
    · rintro i d acc ρ N hd ⟨bag, rows, hb, rfl, hl, hr, rfl⟩ hN
      have hi : i < (1 + c : Int).toNat := (rng_get hd).1
      refine ⟨rfl, rfl, rfl, bag, AD m (pl + 1), rfl, hb, ⟨ne, by omega⟩, fun x bag' hx hb' => ?_⟩
      obtain ⟨r, n, hn, hr2, rfl⟩ := AD_mem hx
      refine ⟨by rw [rsD_len, sizeLine_eq]; omega, hN _ _ ⟨bag', rows ++ [r], hb', by unfold rsD; rw [List.map_append]; rfl, by rw [List.length_append, hl]; rfl, fun r' hr' => ?_, rfl⟩⟩
      rcases List.mem_append.mp hr' with z | z
      · exact hr r' z
      · rw [List.mem_singleton] at z; subst z; exact ⟨n, by omega, hr2⟩
    · rintro acc ρ ⟨bag, rows, hb, rfl, hl, hr, rfl⟩
      have hl : rows.length = (rngD 0 1 (1 + c : Int).toNat).length := hl
      rw [rngD_len] at hl
      exact ⟨trivial, h rows bag ⟨by omega, hr⟩ hb⟩
end K28
end L3

set_option pp.maxSteps 3000
set_option Elab.async false
set_option linter.all false
set_option maxRecDepth 100000
set_option autoImplicit false
set_option maxHeartbeats 0
namespace L3
open PySem PySem.Spec L2
namespace K28
open PyProof.Rows (b2i)
theorem Mn.row {m pl : Nat} (hm : m ≤ 4) (hp : pl ≤ 4) {rows : List (List Int)} (h : Mn m pl rows) : ∀ r ∈ rows, Row r := fun r hr => by
  obtain ⟨n, hn, h2⟩ := h.2 r hr
  exact RR_row hm (by omega) r h2
def sp__law_right (A : Ad) : S3 := fun ds QR _ => ∃ (f : Fm) (m pl : Nat) (rows : List (List Int)), ds = [kD A f, f.d, .int m, .int pl, .tup (rsD rows)] ∧ f.dep ≤ 7 ∧ (1 ≤ m ∧ m ≤ 4) ∧ (1 ≤ pl ∧ pl ≤ 4) ∧ Mn m pl rows ∧ QR (.bl true) ds
def b__law_right_t8 (A : Ad) : T3S := (sRet (eAnd (eCall [.shr, .shr] (sp__law_told_items A) (aCons (eOp oIdx (eVar 7) (eC (.int 0))) (aCons (eOp oIdx (eVar 5) (eC (.int 0))) aNil))) (eCall [.shr, .shr] (sp__law_told_items A) (aCons (eOp oIdx (eVar 7) (eC (.int 1))) (aCons (eOp oIdx (eVar 5) (eC (.int 1))) aNil)))))
def b__law_right_t7 (A : Ad) : T3S := (sSeq (sIf (fOr (fNot (fTru (eCB cIsi (aCons (eVar 7) (aCons (eC (.ty "tuple")) aNil))))) (fTst (eOp (oEq true) (eCB cLen (aCons (eVar 7) aNil)) (eC (.int 2)))))
 (sRet (eC (.bl false)))
 sNext)
 (b__law_right_t8 A))
def b__law_right_t6 (A : Ad) : T3S := (sSeq (sAsg (eCall [.shr, .shr] (sp_faithful A) (aCons (eVar 0) (aCons (eVar 6) aNil))) (gN 7))
 (b__law_right_t7 A))
def b__law_right_t5 (A : Ad) : T3S := (sSeq (sIf (fOr (fNot (fTru (eCall [.shr, .shr] (sp__law_told_items A) (aCons (eOp oIdx (eVar 6) (eC (.int 0))) (aCons (eOp oIdx (eVar 5) (eC (.int 0))) aNil))))) (fNot (fTru (eCall [.shr, .shr] (sp__law_told_items A) (aCons (eOp oIdx (eVar 6) (eC (.int 1))) (aCons (eOp oIdx (eVar 5) (eC (.int 1))) aNil))))))
 (sRet (eC (.bl false)))
 sNext)
 (b__law_right_t6 A))
def b__law_right_t4 (A : Ad) : T3S := (sSeq (sIf (fOr (fNot (fTru (eVar 5))) (fOr (fNot (fTru (eCB cIsi (aCons (eVar 6) (aCons (eC (.ty "tuple")) aNil))))) (fOr (fTst (eOp (oEq true) (eCB cLen (aCons (eVar 6) aNil)) (eC (.int 2)))) (fTst (eOp (oEq true) (eCB cLen (aCons (eOp oIdx (eVar 5) (eC (.int 0))) aNil)) (eC (.int 1)))))))
 (sRet (eC (.bl false)))
 sNext)
 (b__law_right_t5 A))
def b__law_right_t3 (A : Ad) : T3S := (sSeq (sIf (fTst (eOp (oIsN false) (eVar 6) (eC .non)))
 (sRet (eAnd (eNot (eVar 5)) (eAnd (eOp (oIsN false) (eCall [.shr, .shr] (sp_faithful A) (aCons (eVar 0) (aCons (eVar 4) aNil))) (eC .non)) (eOp (oIsN false) (eCall [.shr, .shr] (sp_least_parting A) (aCons (eVar 0) (aCons (eVar 4) aNil))) (eC .non)))))
 sNext)
 (b__law_right_t4 A))
def b__law_right_t2 (A : Ad) : T3S := (sSeq (sIf (fTst (eOp (oEq true) (eOp (oIsN false) (eVar 6) (eC .non)) (eCall [.shr, .shr, .shr] (sp__law_plain A) (aCons (eVar 1) (aCons (eVar 2) (aCons (eVar 3) aNil))))))
 (sRet (eC (.bl false)))
 sNext)
 (b__law_right_t3 A))
def b__law_right_t1 (A : Ad) : T3S := (sSeq (sAsg (eCall [.shr, .shr, .shr] (sp_least_pair A) (aCons (eVar 0) (aCons (eVar 2) (aCons (eVar 3) aNil)))) (gN 6))
 (b__law_right_t2 A))
def b__law_right (A : Ad) : T3S := (sSeq (sAsg (eCall [.shr, .shr, .shr] (sp__law_least A) (aCons (eVar 1) (aCons (eVar 2) (aCons (eVar 3) aNil)))) (gN 5))
 (b__law_right_t1 A))
theorem t__law_right (A : Ad) : ∀ ds QR QO, sp__law_right A ds QR QO → ds.length = 5 → b__law_right A (endE [.shr, .shr, .shr, .shr, .shr] ds QR QO) (startE 3 [.shr, .shr, .shr, .shr, .shr] ds) := by
  rintro ds QR QO ⟨f, m, pl, rows, rfl, hf, ⟨m1, hm⟩, ⟨p1, hp⟩, hr, h⟩ _
  have hrow := hr.row hm hp
  have hl := hr.1
  by_cases no : ∀ a ≤ pl, ∀ b ≤ pl, NoU f m a b
  · have fa : Faith f rows := fun o ho n hn => by
      obtain ⟨a, ha, ho⟩ := hr.2 o ho
      obtain ⟨b, hb, hn⟩ := hr.2 n hn
      exact no a ha b hb o ho n hn
    have nT : ∀ T l o n, ¬ FstT f m pl T l o n := fun T l o n z => by
      obtain ⟨i, j, h2⟩ := z.two
      exact h2.no (no l z.hl (T - l) z.hr)
    have n2 : ∀ i j o n, ¬ Fst2 (Unl f) rows rows i j o n := fun i j o n z => fa o (List.mem_of_getElem? z.io) n (List.mem_of_getElem? z.jn) z.p
    have n3 : ∀ i j k o n, ¬ Fst3 (Prt f) rows rows i j k o n := fun i j k o n z => n2 i j o n z.two
    refine ⟨rfl, f, m, pl, rfl, hf, hm, hp, fun _ => ⟨rfl, ?_⟩, fun T l o n z => absurd z (nT T l o n)⟩
    show b__law_right_t1 A _ [.shr (kD A f), .shr f.d, .shr (.int m), .shr (.int pl), .shr (.tup (rsD rows)), .shr (.lst []), .emp, .emp]
    refine ⟨rfl, f, m, pl, rfl, hf, hm, hp, fun _ => ⟨rfl, ?_⟩, fun T l o n z => absurd z (nT T l o n)⟩
    show b__law_right_t2 A _ [.shr (kD A f), .shr f.d, .shr (.int m), .shr (.int pl), .shr (.tup (rsD rows)), .shr (.lst []), .shr .non, .emp]
    refine ⟨rfl, f, m, pl, rfl, hf, hm, hp, fun b hb => ?_⟩
    have eb : b = true := hb.mpr (plain_of p1 no)
    subst eb
    refine ⟨rfl, rfl, ?_⟩
    exact ⟨rfl, f, rows, rfl, hf, hrow, by omega, fun _ => ⟨rfl, f, rows, rfl, hf, hrow, fun _ => h, fun i j k o n x z => absurd z (n3 i j k o n)⟩, fun i j o n z => absurd z (n2 i j o n)⟩
  · obtain ⟨T, l, o, n, F⟩ : ∃ T l o n, FstT f m pl T l o n := by
      obtain ⟨a, ha⟩ := Classical.not_forall.mp no
      obtain ⟨ha, hb⟩ := Classical.not_imp.mp ha
      obtain ⟨b, hb⟩ := Classical.not_forall.mp hb
      obtain ⟨hb, hn⟩ := Classical.not_imp.mp hb
      exact fstT_ex ha hb hn
    obtain ⟨i, j, h2⟩ := F.two
    have l1 := F.one
    have ho := List.mem_of_getElem? h2.io
    have hn := List.mem_of_getElem? h2.jn
    have hl' := F.hl
    have hro := RR_row hm (by omega) o ho
    have hrn := RR_row hm (by have := F.hr; omega) n hn
    have ol : o.length = 1 := by rw [(mem_RR.mp ho).len, l1]
    refine ⟨rfl, f, m, pl, rfl, hf, hm, hp, fun z => absurd z no, fun T' l' o' n' z => ?_⟩
    obtain ⟨eo, en⟩ := z.uniq F
    subst eo en
    refine ⟨rfl, ?_⟩
    refine ⟨rfl, f, m, pl, rfl, hf, hm, hp, fun z => absurd z no, fun T2 l2 o2 n2 z => ?_⟩
    obtain ⟨eo, en⟩ := z.uniq F
    subst eo en
    refine ⟨rfl, ?_⟩
    show b__law_right_t2 A _ [.shr (kD A f), .shr f.d, .shr (.int m), .shr (.int pl), .shr (.tup (rsD rows)), .shr (.lst [rowD o2, rowD n2]), .shr (.tup [rowD o2, rowD n2]), .emp]
    refine ⟨rfl, f, m, pl, rfl, hf, hm, hp, fun b hb => ?_⟩
    have eb : b = false := by
      cases b with
      | false => rfl
      | true => exact absurd (fun a ha b hb' => (hb.mp rfl).no ha hb') no
    subst eb
    refine ⟨rfl, rfl, ?_⟩
    show b__law_right_t4 A _ [.shr (kD A f), .shr f.d, .shr (.int m), .shr (.int pl), .shr (.tup (rsD rows)), .shr (.lst [rowD o2, rowD n2]), .shr (.tup [rowD o2, rowD n2]), .emp]
    refine ⟨rfl, rfl, rfl, rfl, rfl, ?_⟩
    show if (!(D.eqv (.int ((iD o2).length : Nat)) (.int 1))) = true then _ else _
    rw [eqi', iD_len, ol]
    refine ife (by simp) ?_
    show b__law_right_t5 A _ [.shr (kD A f), .shr f.d, .shr (.int m), .shr (.int pl), .shr (.tup (rsD rows)), .shr (.lst [rowD o2, rowD n2]), .shr (.tup [rowD o2, rowD n2]), .emp]
    refine ⟨rfl, o2, rfl, hro.len, rfl, n2, rfl, hrn.len, ?_⟩
    show b__law_right_t6 A _ [.shr (kD A f), .shr f.d, .shr (.int m), .shr (.int pl), .shr (.tup (rsD rows)), .shr (.lst [rowD o2, rowD n2]), .shr (.tup [rowD o2, rowD n2]), .emp]
    have G : Fst2 (Unl f) [o2, n2] [o2, n2] 0 1 o2 n2 := ⟨rfl, rfl, h2.p, fun i' o' hi => absurd hi (Nat.not_lt_zero _), fun j' n' hj en => by
      have e : j' = 0 := by omega
      subst e
      cases en
      exact unl_self hro⟩
    have r2 : ∀ r ∈ [o2, n2], Row r := fun r hr => by
      rcases List.mem_cons.mp hr with e | hr
      · subst e; exact hro
      · rw [List.mem_singleton] at hr; subst hr; exact hrn
    refine ⟨rfl, f, [o2, n2], rfl, hf, r2, Nat.le_of_ble_eq_true rfl, fun z => absurd h2.p (z o2 (List.mem_cons_self ..) n2 (List.mem_cons_of_mem _ (List.mem_cons_self ..))), fun i3 j3 o3 n3 z => ?_⟩
    obtain ⟨eo, en⟩ := z.uniq G
    subst eo en
    refine ⟨rfl, ?_⟩
    show b__law_right_t7 A _ [.shr (kD A f), .shr f.d, .shr (.int m), .shr (.int pl), .shr (.tup (rsD rows)), .shr (.lst [rowD o3, rowD n3]), .shr (.tup [rowD o3, rowD n3]), .shr (.tup [rowD o3, rowD n3])]
    refine ⟨rfl, rfl, rfl, rfl, o3, rfl, hro.len, rfl, n3, rfl, hrn.len, h⟩
def sp_law (A : Ad) : S3 := fun ds QR _ => ∃ ns : List Int, ds = [.scr ns] ∧ ns.length ≤ 63 ∧ QR (.bl true) ds
/-! ### the bag -/
def sp__law_bag (A : Ad) : S3 := fun ds _ QO => ∃ ns : List Int, ds = [.scr ns] ∧ ns.length ≤ 63 ∧ ∀ b, isBag b → QO b ds
def b__law_bag_l1 (A : Ad) : T3S := (sAsg (eOp (oI (fun _ j => 0 < j) fun i j => .int (i % j)) (eCB cInt (aCons (eOp oAdd (eOp oAdd (eOp oMul (eVar 2) (eC (.int 31))) (eOp (oI (fun _ j => 0 < j) fun i j => .int (i % j)) (eCB cInt (aCons (eCB cAbs (aCons (eVar 4) aNil)) aNil)) (eC (.int 1000000007)))) (eOp oMul (eOp oAdd (eVar 3) (eC (.int 1))) (eOp oLt (eVar 4) (eC (.int 0))))) aNil)) (eC (.int 1000000007))) (gN 2))
def b__law_bag_t3 (A : Ad) : T3S := (sRetO (oLst (aCons (eVar 1) (aCons (eC (.int 0)) (aCons (eC (.int 0)) (aCons (eC (.int 0)) (aCons (eVar 2) aNil)))))))
def b__law_bag_t2 (A : Ad) : T3S := (sSeq (sFor (iEP (aCons (eSl (eVar 1) pNo (pSo (eC (.int 63)))) aNil)) (gT 2 (fun xs ρ Q => match xs with | x :: r => (gN 3) x ρ fun ρ1 => (fun xs ρ Q => match xs with | x :: r => (gN 4) x ρ fun ρ1 => (fun xs ρ Q => xs = [] ∧ Q ρ) r ρ1 Q | [] => False) r ρ1 Q | [] => False))
 (b__law_bag_l1 A))
 (b__law_bag_t3 A))
def b__law_bag_t1 (A : Ad) : T3S := (sSeq (sAsg (eCB cLen (aCons (eVar 1) aNil)) (gN 2))
 (b__law_bag_t2 A))
def b__law_bag (A : Ad) : T3S := (sSeq (sAsg (eShr (oLc (iS (eVar 0)) (gN 4) fYes (eCB cInt (aCons (eVar 4) aNil)) [4])) (gN 1))
 (b__law_bag_t1 A))
theorem t__law_bag (A : Ad) : ∀ ds QR QO, sp__law_bag A ds QR QO → ds.length = 1 → b__law_bag A (endE [.shr] ds QR QO) (startE 4 [.shr] ds) := by
  rintro ds QR QO ⟨ns, rfl, hl, h⟩ _
  refine lc_of (ρ := [.shr (.scr ns), .emp, .emp, .emp, .emp]) ns D.int (fun x => some (.int x)) rfl rfl (by rw [sizeLine_eq]; omega) (fun x hx acc N hl hN => ⟨rfl, hl, hN⟩) ⟨trivial, rfl, ?_⟩
  rw [fm_all]
  show b__law_bag_t1 A _ [.shr (.scr ns), .shr (.lst (iD ns)), .emp, .emp, .emp]
  refine ⟨rfl, ?_⟩
  show b__law_bag_t2 A _ [.shr (.scr ns), .shr (.lst (iD ns)), .shr (.int ((iD ns).length : Nat)), .emp, .emp]
  refine for_inv (fun i ρ => ∃ (s : Int) (s3 s4 : Sl), s3.locked = false ∧ s4.locked = false ∧ ρ = [.shr (.scr ns), .shr (.lst (iD ns)), .shr (.int s), s3, s4]) _ ?_ ?_ ⟨_, .emp, .emp, rfl, rfl, rfl⟩
  · rintro i d ρ N hd ⟨s, s3, s4, h3, h4, rfl⟩ hN
    obtain ⟨x, hx, rfl⟩ := pairsD_get hd
    obtain ⟨c, hc, rfl⟩ : ∃ c : Int, c ∈ ns ∧ x = .int c := by
      have := List.mem_of_getElem? hx
      unfold cutL at this
      obtain ⟨c, h1, h2⟩ := iD_mem (List.mem_of_mem_drop (List.mem_of_mem_take this))
      exact ⟨c, h1, h2⟩
    refine ⟨rfl, unF h3, unF h4, rfl, ?_⟩
    show b__law_bag_l1 A { nx := N, rt := _, ro := _, bk := _, ct := N } [.shr (.scr ns), .shr (.lst (iD ns)), .shr (.int s), .shr (.int (i : Nat)), .shr (.int c)]
    exact ⟨cm (by decide), pm _ rfl, pm _ rfl, rfl, hN _ ⟨_, .shr (.int (i : Nat)), .shr (.int c), rfl, rfl, rfl⟩⟩
  · rintro ρ ⟨s, s3, s4, h3, h4, rfl⟩
    exact ⟨trivial, sz _ rfl, h _ ⟨ns, 0, 0, 0, s, rfl, by decide⟩⟩

def b_law_t11 (A : Ad) : T3S := (sRet (eCall [.shr, .shr, .shr, .shr, .shr] (sp__law_right A) (aCons (eOp oIdx (eVar 3) (eC (.int 0))) (aCons (eOp oIdx (eVar 2) (eC (.int 0))) (aCons (eVar 7) (aCons (eVar 8) (aCons (eVar 9) aNil)))))))
def b_law_t10 (A : Ad) : T3S := (sSeq (sIf (fNot (fTru (eCall [.shr, .shr, .shr, .shr, .shr] (sp__law_right A) (aCons (eOp oIdx (eVar 3) (eC (.int 1))) (aCons (eOp oIdx (eVar 2) (eC (.int 1))) (aCons (eVar 7) (aCons (eVar 8) (aCons (eVar 9) aNil))))))))
 (sRet (eC (.bl false)))
 sNext)
 (b_law_t11 A))
def b_law_t9 (A : Ad) : T3S := (sSeq (sAsg (eCall [.par, .shr, .shr] (sp__law_menu_of A) (aCons (eVar 1) (aCons (eVar 7) (aCons (eVar 8) aNil)))) (gN 9))
 (b_law_t10 A))
def b_law_t8 (A : Ad) : T3S := (sSeq (sAsg (eOp oAdd (eC (.int 1)) (eCall [.par, .shr] (sp__law_pick A) (aCons (eVar 1) (aCons (eC (.int 3)) aNil)))) (gN 8))
 (b_law_t9 A))
def b_law_t7 (A : Ad) : T3S := (sSeq (sAsg (eOp oAdd (eC (.int 1)) (eCall [.par, .shr] (sp__law_pick A) (aCons (eVar 1) (aCons (eC (.int 3)) aNil)))) (gN 7))
 (b_law_t8 A))
def b_law_t6 (A : Ad) : T3S := (sSeq (sIf (fNot (fTru (eCall [.shr, .shr, .shr, .shr, .shr] (sp__law_right A) (aCons (eOp oIdx (eVar 3) (eC (.int 0))) (aCons (eOp oIdx (eVar 2) (eC (.int 0))) (aCons (eVar 4) (aCons (eVar 5) (aCons (eVar 6) aNil))))))))
 (sRet (eC (.bl false)))
 sNext)
 (b_law_t7 A))
def b_law_t5 (A : Ad) : T3S := (sSeq (sAsg (eCall [.par, .shr, .shr] (sp__law_menu_of A) (aCons (eVar 1) (aCons (eVar 4) (aCons (eVar 5) aNil)))) (gN 6))
 (b_law_t6 A))
def b_law_t4 (A : Ad) : T3S := (sSeq (sAsg (eOp oAdd (eC (.int 1)) (eCall [.par, .shr] (sp__law_pick A) (aCons (eVar 1) (aCons (eC (.int 4)) aNil)))) (gN 5))
 (b_law_t5 A))
def b_law_t3 (A : Ad) : T3S := (sSeq (sAsg (eOp oAdd (eC (.int 1)) (eCall [.par, .shr] (sp__law_pick A) (aCons (eVar 1) (aCons (eC (.int 4)) aNil)))) (gN 4))
 (b_law_t4 A))
def b_law_t2 (A : Ad) : T3S := (sSeq (sAsg (eShr (oLc (iS (eVar 2)) (gN 10) fYes (eShr (oMake A.Key [.shr] (sp_Key___init__ A) (aCons (eVar 10) aNil))) [10])) (gN 3))
 (b_law_t3 A))
def b_law_t1 (A : Ad) : T3S := (sSeq (sAsg (eLst (aCons (eCall [.par] (sp__law_any_key A) (aCons (eVar 1) aNil)) (aCons (eCall [.par] (sp__law_any_key A) (aCons (eVar 1) aNil)) aNil))) (gN 2))
 (b_law_t2 A))
def b_law (A : Ad) : T3S := (sSeq (sAsgO (oCall [.shr] (sp__law_bag A) (aCons (eVar 0) aNil)) 1)
 (b_law_t1 A))
theorem t_law (A : Ad) : ∀ ds QR QO, sp_law A ds QR QO → ds.length = 1 → b_law A (endE [.shr] ds QR QO) (startE 10 [.shr] ds) := by
  rintro ds QR QO ⟨ns, rfl, hl, h⟩ _
  refine ⟨rfl, ns, rfl, hl, fun bag hb => ⟨rfl, ?_⟩⟩
  refine ⟨rfl, bag, rfl, hb, fun f bag1 gf df hb1 => ⟨rfl, bag1, rfl, hb1, fun g bag2 gg dg hb2 => ⟨sz _ rfl, rfl, ?_⟩⟩⟩
  show b_law_t2 A _ [.shr (.scr ns), .own bag2, .shr (.lst (fsD [f, g])), .emp, .emp, .emp, .emp, .emp, .emp, .emp, .emp]
  refine lc_of (ρ := [.shr (.scr ns), .own bag2, .shr (.lst (fsD [f, g])), .emp, .emp, .emp, .emp, .emp, .emp, .emp, .emp]) [f, g] Fm.d (fun f => some (kD A f)) rfl rfl (by rw [sizeLine_eq]; exact Nat.le_of_ble_eq_true rfl) (fun x hx acc N hl hN => ?_) ⟨trivial, rfl, ?_⟩
  · have gx : x.good ∧ x.dep ≤ 5 := by
      rcases List.mem_cons.mp hx with e | hx
      · subst e; exact ⟨gf, df⟩
      · rw [List.mem_singleton] at hx; subst hx; exact ⟨gg, dg⟩
    exact ⟨rfl, rfl, x, rfl, gx.1, gx.2, rfl, hl, hN⟩
  have d7 : f.dep ≤ 7 := by omega
  have d7' : g.dep ≤ 7 := by omega
  show b_law_t3 A _ [.shr (.scr ns), .own bag2, .shr (.lst [f.d, g.d]), .shr (.lst [kD A f, kD A g]), .emp, .emp, .emp, .emp, .emp, .emp, .emp]
  refine ⟨rfl, bag2, 4, rfl, hb2, ⟨by decide, by decide⟩, fun c bag3 c0 c1 hb3 => ⟨rfl, ?_⟩⟩
  obtain ⟨m, rfl⟩ : ∃ m : Nat, c = (m : Int) := ⟨c.toNat, by omega⟩
  show b_law_t4 A _ [.shr (.scr ns), .own bag3, .shr (.lst [f.d, g.d]), .shr (.lst [kD A f, kD A g]), .shr (.int (1 + (m : Nat))), .emp, .emp, .emp, .emp, .emp, .emp]
  rw [show (1 + (m : Int)) = ((1 + m : Nat) : Int) by omega]
  refine ⟨rfl, bag3, 4, rfl, hb3, ⟨by decide, by decide⟩, fun c bag4 d0 d1 hb4 => ⟨rfl, ?_⟩⟩
  obtain ⟨pl, rfl⟩ : ∃ m : Nat, c = (m : Int) := ⟨c.toNat, by omega⟩
  show b_law_t5 A _ [.shr (.scr ns), .own bag4, .shr (.lst [f.d, g.d]), .shr (.lst [kD A f, kD A g]), .shr (.int ((1 + m : Nat) : Int)), .shr (.int (1 + (pl : Nat))), .emp, .emp, .emp, .emp, .emp]
  rw [show (1 + (pl : Int)) = ((1 + pl : Nat) : Int) by omega]
  refine ⟨rfl, bag4, 1 + m, 1 + pl, rfl, hb4, by omega, by omega, fun rows bag5 hm hb5 => ⟨rfl, ?_⟩⟩
  show b_law_t6 A _ [.shr (.scr ns), .own bag5, .shr (.lst [f.d, g.d]), .shr (.lst [kD A f, kD A g]), .shr (.int ((1 + m : Nat) : Int)), .shr (.int ((1 + pl : Nat) : Int)), .shr (.tup (rsD rows)), .emp, .emp, .emp, .emp]
  refine ⟨rfl, f, 1 + m, 1 + pl, rows, rfl, d7, ⟨by omega, by omega⟩, ⟨by omega, by omega⟩, hm, ?_⟩
  show b_law_t7 A _ [.shr (.scr ns), .own bag5, .shr (.lst [f.d, g.d]), .shr (.lst [kD A f, kD A g]), .shr (.int ((1 + m : Nat) : Int)), .shr (.int ((1 + pl : Nat) : Int)), .shr (.tup (rsD rows)), .emp, .emp, .emp, .emp]
  refine ⟨rfl, bag5, 3, rfl, hb5, ⟨by decide, by decide⟩, fun c bag6 e0 e1 hb6 => ⟨rfl, ?_⟩⟩
  obtain ⟨q, rfl⟩ : ∃ m : Nat, c = (m : Int) := ⟨c.toNat, by omega⟩
  show b_law_t8 A _ [.shr (.scr ns), .own bag6, .shr (.lst [f.d, g.d]), .shr (.lst [kD A f, kD A g]), .shr (.int ((1 + m : Nat) : Int)), .shr (.int ((1 + pl : Nat) : Int)), .shr (.tup (rsD rows)), .shr (.int (1 + (q : Nat))), .emp, .emp, .emp]
  rw [show (1 + (q : Int)) = ((1 + q : Nat) : Int) by omega]
  refine ⟨rfl, bag6, 3, rfl, hb6, ⟨by decide, by decide⟩, fun c bag7 g0 g1 hb7 => ⟨rfl, ?_⟩⟩
  obtain ⟨t, rfl⟩ : ∃ m : Nat, c = (m : Int) := ⟨c.toNat, by omega⟩
  show b_law_t9 A _ [.shr (.scr ns), .own bag7, .shr (.lst [f.d, g.d]), .shr (.lst [kD A f, kD A g]), .shr (.int ((1 + m : Nat) : Int)), .shr (.int ((1 + pl : Nat) : Int)), .shr (.tup (rsD rows)), .shr (.int ((1 + q : Nat) : Int)), .shr (.int (1 + (t : Nat))), .emp, .emp]
  rw [show (1 + (t : Int)) = ((1 + t : Nat) : Int) by omega]
  refine ⟨rfl, bag7, 1 + q, 1 + t, rfl, hb7, by omega, by omega, fun rows2 bag8 hm2 hb8 => ⟨rfl, ?_⟩⟩
  show b_law_t10 A _ [.shr (.scr ns), .own bag8, .shr (.lst [f.d, g.d]), .shr (.lst [kD A f, kD A g]), .shr (.int ((1 + m : Nat) : Int)), .shr (.int ((1 + pl : Nat) : Int)), .shr (.tup (rsD rows)), .shr (.int ((1 + q : Nat) : Int)), .shr (.int ((1 + t : Nat) : Int)), .shr (.tup (rsD rows2)), .emp]
  refine ⟨rfl, g, 1 + q, 1 + t, rows2, rfl, d7', ⟨by omega, by omega⟩, ⟨by omega, by omega⟩, hm2, ?_⟩
  exact ⟨rfl, f, 1 + q, 1 + t, rows2, rfl, d7, ⟨by omega, by omega⟩, ⟨by omega, by omega⟩, hm2, h⟩
end K28
end L3

set_option Elab.async false
set_option linter.all false
set_option maxRecDepth 100000
set_option maxHeartbeats 0
namespace L3
namespace K28
open PySem PySem.Spec L2
open PyProof.Rows (b2i envOfC)
def top (i : Nat) : Stmt := PySem.Challenge.pw_pagesheld_k28_whole_least_pair.main.body.getD i (.Pass ⟨0, 0, 0, 0⟩)
section
variable {P : Program} {w : World} {K : PySem.W.Frag} {mg : Str → Option Value} {base : Heap} {f : Addr} {A : Ad}
abbrev s_is_name : Stmt := top 8
abbrev N_is_name : List Str := ["thing", "sign"]
theorem sc_is_name : FnScope N_is_name ["thing"] (defScope s_is_name) := ⟨rfl, rfl, rfl, by decide +kernel, rfl, by decide +kernel, by decide +kernel⟩
theorem w_is_name (m_len : mg "len" = none) (m_str : mg "str" = none) (m_isinstance : mg "isinstance" = none) (g_LETTERS : ∃ u, mg "LETTERS" = some u ∧ RelV (.str "abcdefghijklmnopqrstuvwxyz") u) (m_all : mg "all" = none) : QB K (CxR 0 P w K mg base N_is_name "is_name" (defScope s_is_name) f) (defBody s_is_name) (b_is_name A) :=
  have hR : ∀ i, Room 0 (CxR 0 P w K mg base N_is_name "is_name" (defScope s_is_name) f i).A := fun i => i.2
  (bc (sif (QW.t (wor (tNot' (ttru (qisi (fun _ => m_isinstance) (qac (qv 0) (qac (qty (T := "str") (fun _ => m_str)) qan))))) (wor (t2 cLt (qlen (fun _ => m_len) (qac (qv 0) qan)) qint) (wo1 (t2 cGt (qlen (fun _ => m_len) (qac (qv 0) qan)) qint)))))
 (b1 (sret qbl))
 bn)
 (b1 (sret (qall (fun _ => rfl) (fun _ => m_all) (qac (QO.sh (olc [("sign", 1)] (istr (qv 0)) (gn 1 (hnd := fun _ => sc_is_name.nd)) tsn (q2 cInT (qv 1) (qglob (fun _ => g_LETTERS) (fun _ _ => rp_str))) (fun _ => blkOk_by (own := [("sign", 1)]) (N := N_is_name) (sc := defScope s_is_name) (by decide +kernel)) (hnd := fun _ => sc_is_name.nd))) qan)))))
abbrev s_is_number : Stmt := top 9
abbrev N_is_number : List Str := ["thing", "low", "high"]
theorem sc_is_number : FnScope N_is_number ["thing", "low", "high"] (defScope s_is_number) := ⟨rfl, rfl, rfl, by decide +kernel, rfl, by decide +kernel, by decide +kernel⟩
theorem w_is_number (m_bool : mg "bool" = none) (m_isinstance : mg "isinstance" = none) (m_int : mg "int" = none) : QB K (CxR 0 P w K mg base N_is_number "is_number" (defScope s_is_number) f) (defBody s_is_number) (b_is_number A) :=
  have hR : ∀ i, Room 0 (CxR 0 P w K mg base N_is_number "is_number" (defScope s_is_number) f i).A := fun i => i.2
  (b1 (sret (qAnd (qisi (fun _ => m_isinstance) (qac (qv 0) (qac (qty (T := "int") (fun _ => m_int)) qan))) (qAnd (qNot (qisi (fun _ => m_isinstance) (qac (qv 0) (qac (qty (T := "bool") (fun _ => m_bool)) qan)))) (q1b (q3c cLe cLe (qv 1) (qv 0) (qv 2)))))))
abbrev s_is_part : Stmt := top 13
abbrev N_is_part : List Str := ["part"]
theorem sc_is_part : FnScope N_is_part ["part"] (defScope s_is_part) := ⟨rfl, rfl, rfl, by decide +kernel, rfl, by decide +kernel, by decide +kernel⟩
theorem w_is_part (m_len : mg "len" = none) (m_tuple : mg "tuple" = none) (m_isinstance : mg "isinstance" = none) (g_COUNTS : ∃ u, mg "COUNTS" = some u ∧ RelV (.ref A.COUNTS) u) (kd_COUNTS : KD3 K w A.COUNTS tbl_COUNTS) (m_str : mg "str" = none) (d_is_number : C3 P w K mg base 1 "is_number" [.shr, .shr, .shr] (sp_is_number A)) (d_is_name : C3 P w K mg base 1 "is_name" [.shr] (sp_is_name A)) : QB K (CxR 1 P w K mg base N_is_part "is_part" (defScope s_is_part) f) (defBody s_is_part) (b_is_part A) :=
  have hR : ∀ i, Room 1 (CxR 1 P w K mg base N_is_part "is_part" (defScope s_is_part) f i).A := fun i => i.2
  (bc (sif (QW.t (wor (tNot' (ttru (qisi (fun _ => m_isinstance) (qac (qv 0) (qac (qty (T := "tuple") (fun _ => m_tuple)) qan))))) (wo1 (t2 (cEq hR) (qlen (fun _ => m_len) (qac (qv 0) qan)) qint))))
 (b1 (sret qbl))
 bn)
 (bc (sif (QW.t (wor (tNot' (ttru (qisi (fun _ => m_isinstance) (qac (qix (qv 0) qint) (qac (qty (T := "str") (fun _ => m_str)) qan))))) (wo1 (t2 (cKNotIn (fun _ => kd_COUNTS)) (qix (qv 0) qint) (qglob (fun _ => g_COUNTS) rp_cls)))))
 (b1 (sret qbl))
 bn)
 (bc (sif (t2 (cNe hR) (qlen (fun _ => m_len) (qac (qv 0) qan)) (qkget (fun _ => kd_COUNTS) (qglob (fun _ => g_COUNTS) rp_cls) (qix (qv 0) qint)))
 (b1 (sret qbl))
 bn)
 (bc (sif (t2 (cEq hR) (qix (qv 0) qint) qstr)
 (b1 (sret (qcall (fun _ => d_is_number) hR (by decide) (qac (qix (qv 0) qint) (qac qint (qac qint qan))))))
 bn)
 (bc (sif (t2 (cEq hR) (qix (qv 0) qint) qstr)
 (b1 (sret (qcall (fun _ => d_is_name) hR (by decide) (qac (qix (qv 0) qint) qan))))
 bn)
 (b1 (sret qbl)))))))
abbrev s_check_form : Stmt := top 14
abbrev N_check_form : List Str := ["parts", "waiting", "deepest", "part", "level", "at"]
theorem sc_check_form : FnScope N_check_form ["parts"] (defScope s_check_form) := ⟨rfl, rfl, rfl, by decide +kernel, rfl, by decide +kernel, by decide +kernel⟩
theorem w_check_form (d_is_part : C3 P w K mg base 2 "is_part" [.shr] (sp_is_part A)) (m_len : mg "len" = none) (m_range : mg "range" = none) (g_MOST_LEVELS : ∃ u, mg "MOST_LEVELS" = some u ∧ RelV (.int 5) u) : QB K (CxR 2 P w K mg base N_check_form "check_form" (defScope s_check_form) f) (defBody s_check_form) (b_check_form A) :=
  have hR : ∀ i, Room 2 (CxR 2 P w K mg base N_check_form "check_form" (defScope s_check_form) f i).A := fun i => i.2
  (bc (ssetO 1 (olst (qac (qtup (qac (qv 0) (qac qint qan))) qan)) (hnd := fun _ => sc_check_form.nd))
 (bc (sset 2 qint (hnd := fun _ => sc_check_form.nd))
 (bc (swhile (ttru (qv 1)) (bc (sasg (qbm0 PySem.F.plainAttrs_list PySem.F.slot_list_pop PySem.F.type_list_pop (fun _ => mt_pop) simPop (qv 1)) (gtup (gsc (gn 3 (hnd := fun _ => sc_check_form.nd)) (gsc (gn 4 (hnd := fun _ => sc_check_form.nd)) gsn))))
 (bc (sif (tNot' (ttru (qcall (fun _ => d_is_part) hR (by decide) (qac (qv 3) qan))))
 (b1 snever)
 bn)
 (bc (sif (t2 cGt (qv 4) (qv 2))
 (b1 (sset 2 (qv 4) (hnd := fun _ => sc_check_form.nd)))
 bn)
 (b1 (sif (QW.t (wa (t2 (cNe hR) (qix (qv 3) qint) qstr) (wa1 (t2 (cNe hR) (qix (qv 3) qint) qstr))))
 (b1 (sfor (irng3 (fun _ => m_range) (qac (qsub (qlen (fun _ => m_len) (qac (qv 3) qan)) qint) (qac qint (qac (qneg qint) qan)))) (gn 5 (hnd := fun _ => sc_check_form.nd))
 (b1 (sexpr (qbm PySem.F.plainAttrs_list PySem.F.slot_list_append PySem.F.type_list_append (fun _ => mt_append) simAppend (qv 1) (qac (qtup (qac (qix (qv 3) (qv 5)) (qac (qadd (qv 4) qint) qan))) qan))))))
 bn))))))
 (b1 (sif (t2 cGt (qv 2) (qglob (fun _ => g_MOST_LEVELS) (fun _ _ => rp_int)))
 (b1 snever)
 bn)))))
abbrev s_value_of : Stmt := top 15
abbrev N_value_of : List Str := ["parts", "values", "first", "second"]
theorem sc_value_of : FnScope N_value_of ["parts", "values"] (defScope s_value_of) := ⟨rfl, rfl, rfl, by decide +kernel, rfl, by decide +kernel, by decide +kernel⟩
theorem w_value_of {lv : Nat} {sm : S3} (me : C3 P w K mg base lv "value_of" [.shr, .brw] sm) : QB K (CxR lv P w K mg base N_value_of "value_of" (defScope s_value_of) f) (defBody s_value_of) (b_value_of A sm) :=
  have hR : ∀ i, Room lv (CxR lv P w K mg base N_value_of "value_of" (defScope s_value_of) f i).A := fun i => i.2
  (bc (sif (t2 (cEq hR) (qix (qv 0) qint) qstr)
 (b1 (sret (qix (qv 0) qint)))
 bn)
 (bc (sif (t2 (cEq hR) (qix (qv 0) qint) qstr)
 (bc (sif (tdnotin hR (qix (qv 0) qint) (qv 1))
 (b1 snever)
 bn)
 (b1 (sret (qdget hR (qv 1) (qix (qv 0) qint)))))
 bn)
 (bc (sif (t2 (cEq hR) (qix (qv 0) qint) qstr)
 (bc (sif (t2 (cNe hR) (qcall (fun _ => me) hR (Nat.le_refl _) (qac (qix (qv 0) qint) (qac (qv 1) qan))) qint)
 (b1 (sret (qcall (fun _ => me) hR (Nat.le_refl _) (qac (qix (qv 0) qint) (qac (qv 1) qan)))))
 bn)
 (b1 (sret (qcall (fun _ => me) hR (Nat.le_refl _) (qac (qix (qv 0) qint) (qac (qv 1) qan))))))
 bn)
 (bc (sset 2 (qcall (fun _ => me) hR (Nat.le_refl _) (qac (qix (qv 0) qint) (qac (qv 1) qan))) (hnd := fun _ => sc_value_of.nd))
 (bc (sset 3 (qcall (fun _ => me) hR (Nat.le_refl _) (qac (qix (qv 0) qint) (qac (qv 1) qan))) (hnd := fun _ => sc_value_of.nd))
 (bc (sif (t2 (cEq hR) (qix (qv 0) qint) qstr)
 (b1 (sret (qmod (qadd (qv 2) (qv 3)) qint)))
 bn)
 (bc (sif (t2 (cEq hR) (qv 2) (qv 3))
 (b1 (sret qint))
 bn)
 (b1 (sret qint)))))))))
abbrev s_names_of : Stmt := top 16
abbrev N_names_of : List Str := ["parts", "found", "piece", "told"]
theorem sc_names_of : FnScope N_names_of ["parts"] (defScope s_names_of) := ⟨rfl, rfl, rfl, by decide +kernel, rfl, by decide +kernel, by decide +kernel⟩
theorem w_names_of {lv : Nat} {sm : S3} (me : C3 P w K mg base lv "names_of" [.shr] sm) (m_tuple : mg "tuple" = none) : QB K (CxR lv P w K mg base N_names_of "names_of" (defScope s_names_of) f) (defBody s_names_of) (b_names_of A sm) :=
  have hR : ∀ i, Room lv (CxR lv P w K mg base N_names_of "names_of" (defScope s_names_of) f i).A := fun i => i.2
  (bc (sif (t2 (cEq hR) (qix (qv 0) qint) qstr)
 (b1 (sret (qtup qan)))
 bn)
 (bc (sif (t2 (cEq hR) (qix (qv 0) qint) qstr)
 (b1 (sret (qtup (qac (qix (qv 0) qint) qan))))
 bn)
 (bc (ssetO 1 (olst qan) (hnd := fun _ => sc_names_of.nd))
 (bc (sfor (iseq (qsl (qv 0) (qpart qint) qno)) (gn 2 (hnd := fun _ => sc_names_of.nd))
 (b1 (sfor (iseq (qcall (fun _ => me) hR (Nat.le_refl _) (qac (qv 2) qan))) (gn 3 (hnd := fun _ => sc_names_of.nd))
 (b1 (sif (t2 (cNotIn hR) (qv 3) (qv 1))
 (b1 (sexpr (qbm PySem.F.plainAttrs_list PySem.F.slot_list_append PySem.F.type_list_append (fun _ => mt_append) simAppend (qv 1) (qac (qv 3) qan))))
 bn)))))
 (b1 (sret (qtupC (fun _ => m_tuple) (qac (qv 1) qan))))))))
abbrev s_check_row : Stmt := top 19
abbrev N_check_row : List Str := ["row", "seen", "item"]
theorem sc_check_row : FnScope N_check_row ["row"] (defScope s_check_row) := ⟨rfl, rfl, rfl, by decide +kernel, rfl, by decide +kernel, by decide +kernel⟩
theorem w_check_row (m_len : mg "len" = none) (g_MOST_ITEMS : ∃ u, mg "MOST_ITEMS" = some u ∧ RelV (.int 5) u) (m_tuple : mg "tuple" = none) (m_isinstance : mg "isinstance" = none) (m_bool : mg "bool" = none) (m_int : mg "int" = none) : QB K (CxR 0 P w K mg base N_check_row "check_row" (defScope s_check_row) f) (defBody s_check_row) (b_check_row A) :=
  have hR : ∀ i, Room 0 (CxR 0 P w K mg base N_check_row "check_row" (defScope s_check_row) f i).A := fun i => i.2
  (bc (sif (QW.t (wor (tNot' (ttru (qisi (fun _ => m_isinstance) (qac (qv 0) (qac (qty (T := "tuple") (fun _ => m_tuple)) qan))))) (wo1 (t2 cGt (qlen (fun _ => m_len) (qac (qv 0) qan)) (qglob (fun _ => g_MOST_ITEMS) (fun _ _ => rp_int))))))
 (b1 snever)
 bn)
 (bc (ssetO 1 (olst qan) (hnd := fun _ => sc_check_row.nd))
 (b1 (sfor (iseq (qv 0)) (gn 2 (hnd := fun _ => sc_check_row.nd))
 (bc (sif (QW.t (wor (tNot' (ttru (qisi (fun _ => m_isinstance) (qac (qv 2) (qac (qty (T := "int") (fun _ => m_int)) qan))))) (wo1 (ttru (qisi (fun _ => m_isinstance) (qac (qv 2) (qac (qty (T := "bool") (fun _ => m_bool)) qan)))))))
 (b1 snever)
 bn)
 (bc (sif (QW.t (wor (t2 cLt (qv 2) qint) (wor (t2 cGt (qv 2) qint) (wo1 (t2 (cIn hR) (qv 2) (qv 1))))))
 (b1 snever)
 bn)
 (b1 (sexpr (qbm PySem.F.plainAttrs_list PySem.F.slot_list_append PySem.F.type_list_append (fun _ => mt_append) simAppend (qv 1) (qac (qv 2) qan))))))))))
abbrev s_idents_of : Stmt := top 20
abbrev N_idents_of : List Str := ["parts", "row", "values", "idents", "place", "value"]
theorem sc_idents_of : FnScope N_idents_of ["parts", "row"] (defScope s_idents_of) := ⟨rfl, rfl, rfl, by decide +kernel, rfl, by decide +kernel, by decide +kernel⟩
theorem w_idents_of (m_len : mg "len" = none) (m_range : mg "range" = none) (d_value_of : C3 P w K mg base 8 "value_of" [.shr, .brw] (sp_value_of A)) (m_tuple : mg "tuple" = none) : QB K (CxR 8 P w K mg base N_idents_of "idents_of" (defScope s_idents_of) f) (defBody s_idents_of) (b_idents_of A) :=
  have hR : ∀ i, Room 8 (CxR 8 P w K mg base N_idents_of "idents_of" (defScope s_idents_of) f i).A := fun i => i.2
  (bc (ssetO 2 (olst qan) (hnd := fun _ => sc_idents_of.nd))
 (bc (ssetO 3 (olst qan) (hnd := fun _ => sc_idents_of.nd))
 (bc (sfor (irng1 (fun _ => m_range) (qac (qlen (fun _ => m_len) (qac (qv 1) qan)) qan)) (gn 4 (hnd := fun _ => sc_idents_of.nd))
 (bc (sset 5 (qcall (fun _ => d_value_of) hR (by decide) (qac (qv 0) (qac (QO.sh (odisp (qdc (qix (qv 1) (qv 4)) (qdc (qv 4) qdn)))) qan))) (hnd := fun _ => sc_idents_of.nd))
 (bc (sexpr (qbm PySem.F.plainAttrs_list PySem.F.slot_list_append PySem.F.type_list_append (fun _ => mt_append) simAppend (qv 3) (qac (qtup (qac (qv 5) (qac (qbm PySem.F.plainAttrs_list PySem.F.slot_list_count PySem.F.type_list_count (fun _ => mt_lcount) simCount (qv 2) (qac (qv 5) qan)) qan))) qan)))
 (b1 (sexpr (qbm PySem.F.plainAttrs_list PySem.F.slot_list_append PySem.F.type_list_append (fun _ => mt_append) simAppend (qv 2) (qac (qv 5) qan)))))))
 (b1 (sret (qtupC (fun _ => m_tuple) (qac (qv 3) qan)))))))
abbrev s_Key___init__ : Stmt := inClass (top 22) 0
abbrev N_Key___init__ : List Str := ["self", "form", "name"]
theorem sc_Key___init__ : FnScope N_Key___init__ ["self", "form"] (defScope s_Key___init__) := ⟨rfl, rfl, rfl, by decide +kernel, rfl, by decide +kernel, by decide +kernel⟩
theorem w_Key___init__ (d_check_form : C3 P w K mg base 3 "check_form" [.shr] (sp_check_form A)) (d_names_of : C3 P w K mg base 8 "names_of" [.shr] (sp_names_of A)) (c_Key : Cls K A.Key) (n_Key_form : NoAttr K A.Key "form") : QB K (CxR 8 P w K mg base N_Key___init__ "Key.__init__" (defScope s_Key___init__) f) (defBody s_Key___init__) (b_Key___init__ A) :=
  have hR : ∀ i, Room 8 (CxR 8 P w K mg base N_Key___init__ "Key.__init__" (defScope s_Key___init__) f i).A := fun i => i.2
  (bc (sexpr (qcall (fun _ => d_check_form) hR (by decide) (qac (qv 1) qan)))
 (bc (sfor (iseq (qcall (fun _ => d_names_of) hR (by decide) (qac (qv 1) qan))) (gn 2 (hnd := fun _ => sc_Key___init__.nd))
 (b1 (sif (QW.t (wa (t2 (cNe hR) (qv 2) qstr) (wa1 (t2 (cNe hR) (qv 2) qstr))))
 (b1 snever)
 bn)))
 (b1 (sfld c_Key n_Key_form (qv 0) (qv 1)))))
abbrev s_Key_idents : Stmt := inClass (top 22) 4
abbrev N_Key_idents : List Str := ["self", "row"]
theorem sc_Key_idents : FnScope N_Key_idents ["self", "row"] (defScope s_Key_idents) := ⟨rfl, rfl, rfl, by decide +kernel, rfl, by decide +kernel, by decide +kernel⟩
theorem w_Key_idents (d_check_row : C3 P w K mg base 1 "check_row" [.shr] (sp_check_row A)) (c_Key : Cls K A.Key) (n_Key_form : NoAttr K A.Key "form") (d_idents_of : C3 P w K mg base 9 "idents_of" [.shr, .shr] (sp_idents_of A)) : QB K (CxR 9 P w K mg base N_Key_idents "Key.idents" (defScope s_Key_idents) f) (defBody s_Key_idents) (b_Key_idents A) :=
  have hR : ∀ i, Room 9 (CxR 9 P w K mg base N_Key_idents "Key.idents" (defScope s_Key_idents) f i).A := fun i => i.2
  (bc (sexpr (qcall (fun _ => d_check_row) hR (by decide) (qac (qv 1) qan)))
 (b1 (sret (qcall (fun _ => d_idents_of) hR (by decide) (qac (qfld c_Key n_Key_form (qv 0)) (qac (qv 1) qan))))))
abbrev s_goes_wrong : Stmt := top 23
abbrev N_goes_wrong : List Str := ["old", "before", "new", "behind", "place"]
theorem sc_goes_wrong : FnScope N_goes_wrong ["old", "before", "new", "behind"] (defScope s_goes_wrong) := ⟨rfl, rfl, rfl, by decide +kernel, rfl, by decide +kernel, by decide +kernel⟩
theorem w_goes_wrong (m_len : mg "len" = none) (m_range : mg "range" = none) : QB K (CxR 0 P w K mg base N_goes_wrong "goes_wrong" (defScope s_goes_wrong) f) (defBody s_goes_wrong) (b_goes_wrong A) :=
  have hR : ∀ i, Room 0 (CxR 0 P w K mg base N_goes_wrong "goes_wrong" (defScope s_goes_wrong) f i).A := fun i => i.2
  (bc (sfor (irng1 (fun _ => m_range) (qac (qlen (fun _ => m_len) (qac (qv 2) qan)) qan)) (gn 4 (hnd := fun _ => sc_goes_wrong.nd))
 (b1 (sif (t2 (cIn hR) (qix (qv 3) (qv 4)) (qv 1))
 (b1 (sif (t2 (cNe hR) (qix (qv 0) (qtidx hR (qv 1) (qac (qix (qv 3) (qv 4)) qan))) (qix (qv 2) (qv 4)))
 (b1 (sret qbl))
 bn))
 (b1 (sif (t2 (cIn hR) (qix (qv 2) (qv 4)) (qv 0))
 (b1 (sret qbl))
 bn)))))
 (b1 (sret qbl)))
abbrev s_first_going_wrong : Stmt := top 24
abbrev N_first_going_wrong : List Str := ["olds", "news", "old", "before", "new", "behind"]
theorem sc_first_going_wrong : FnScope N_first_going_wrong ["olds", "news"] (defScope s_first_going_wrong) := ⟨rfl, rfl, rfl, by decide +kernel, rfl, by decide +kernel, by decide +kernel⟩
theorem w_first_going_wrong (d_goes_wrong : C3 P w K mg base 1 "goes_wrong" [.shr, .shr, .shr, .shr] (sp_goes_wrong A)) : QB K (CxR 1 P w K mg base N_first_going_wrong "first_going_wrong" (defScope s_first_going_wrong) f) (defBody s_first_going_wrong) (b_first_going_wrong A) :=
  have hR : ∀ i, Room 1 (CxR 1 P w K mg base N_first_going_wrong "first_going_wrong" (defScope s_first_going_wrong) f i).A := fun i => i.2
  (bc (sfor (iseq (qv 0)) (gtup (gsc (gn 2 (hnd := fun _ => sc_first_going_wrong.nd)) (gsc (gn 3 (hnd := fun _ => sc_first_going_wrong.nd)) gsn)))
 (b1 (sfor (iseq (qv 1)) (gtup (gsc (gn 4 (hnd := fun _ => sc_first_going_wrong.nd)) (gsc (gn 5 (hnd := fun _ => sc_first_going_wrong.nd)) gsn)))
 (b1 (sif (ttru (qcall (fun _ => d_goes_wrong) hR (by decide) (qac (qv 2) (qac (qv 3) (qac (qv 4) (qac (qv 5) qan))))))
 (b1 (sret (qtup (qac (qv 2) (qac (qv 4) qan)))))
 bn)))))
 (b1 (sret qnon)))
abbrev s_faithful : Stmt := top 25
abbrev N_faithful : List Str := ["key", "menu", "listed", "row"]
theorem sc_faithful : FnScope N_faithful ["key", "menu"] (defScope s_faithful) := ⟨rfl, rfl, rfl, by decide +kernel, rfl, by decide +kernel, by decide +kernel⟩
theorem w_faithful (m_Key_idents : Me3 P w K mg base 10 A.Key "idents" [.shr, .shr] (sp_Key_idents A)) (d_first_going_wrong : C3 P w K mg base 2 "first_going_wrong" [.brw, .brw] (sp_first_going_wrong A)) : QB K (CxR 10 P w K mg base N_faithful "faithful" (defScope s_faithful) f) (defBody s_faithful) (b_faithful A) :=
  have hR : ∀ i, Room 10 (CxR 10 P w K mg base N_faithful "faithful" (defScope s_faithful) f i).A := fun i => i.2
  (bc (slc 2 [("row", 3)] (iseq (qv 1)) (gn 3 (hnd := fun _ => sc_faithful.nd)) tsn (qtup (qac (qv 3) (qac (qmeth (fun _ => m_Key_idents) (fun i => hR i.1) (by decide) (qv 0) (qac (qv 3) qan)) qan))) (fun _ => blkOk_by (own := [("row", 3)]) (N := N_faithful) (sc := defScope s_faithful) (by decide +kernel)) (fun _ => sw_true rfl rfl rfl (by decide +kernel)) (hnd := fun _ => sc_faithful.nd))
 (b1 (sret (qcall (fun _ => d_first_going_wrong) hR (by decide) (qac (qv 2) (qac (qv 2) qan))))))
abbrev s_rows_of : Stmt := top 26
abbrev N_rows_of : List Str := ["size", "length", "rows", "count", "row", "item"]
theorem sc_rows_of : FnScope N_rows_of ["size", "length"] (defScope s_rows_of) := ⟨rfl, rfl, rfl, by decide +kernel, rfl, by decide +kernel, by decide +kernel⟩
theorem w_rows_of (m_range : mg "range" = none) : QB K (CxR 0 P w K mg base N_rows_of "rows_of" (defScope s_rows_of) f) (defBody s_rows_of) (b_rows_of A) :=
  have hR : ∀ i, Room 0 (CxR 0 P w K mg base N_rows_of "rows_of" (defScope s_rows_of) f i).A := fun i => i.2
  (bc (sset 2 (qlst (qac (qtup qan) qan)) (hnd := fun _ => sc_rows_of.nd))
 (bc (sfor (irng1 (fun _ => m_range) (qac (qv 1) qan)) (gn 3 (hnd := fun _ => sc_rows_of.nd))
 (b1 (slc2 2 [("row", 4), ("item", 5)] [5] (iseq (qv 2)) (gn 4 (hnd := fun _ => sc_rows_of.nd)) tsn (irng1x (fun _ => m_range) (qac (qv 0) qan)) (gn 5 (hnd := fun _ => sc_rows_of.nd)) (ts1 (t2 (cNotIn (fun i => hR i.1)) (qv 5) (qv 4))) (qadd (qv 4) (qtup (qac (qv 5) qan))) (fun _ => blkOk_by (own := [("row", 4), ("item", 5)]) (N := N_rows_of) (sc := defScope s_rows_of) (by decide +kernel)) (fun _ => sw_true rfl rfl rfl (by decide +kernel)) (hnd := fun _ => sc_rows_of.nd))))
 (b1 (sret (qv 2)))))
abbrev s_least_pair : Stmt := top 27
abbrev N_least_pair : List Str := ["key", "size", "places", "listed", "length", "total", "pair", "row"]
theorem sc_least_pair : FnScope N_least_pair ["key", "size", "places"] (defScope s_least_pair) := ⟨rfl, rfl, rfl, by decide +kernel, rfl, by decide +kernel, by decide +kernel⟩
theorem w_least_pair (m_range : mg "range" = none) (d_rows_of : C3 P w K mg base 1 "rows_of" [.shr, .shr] (sp_rows_of A)) (m_Key_idents : Me3 P w K mg base 10 A.Key "idents" [.shr, .shr] (sp_Key_idents A)) (d_first_going_wrong : C3 P w K mg base 2 "first_going_wrong" [.brw, .brw] (sp_first_going_wrong A)) : QB K (CxR 10 P w K mg base N_least_pair "least_pair" (defScope s_least_pair) f) (defBody s_least_pair) (b_least_pair A) :=
  have hR : ∀ i, Room 10 (CxR 10 P w K mg base N_least_pair "least_pair" (defScope s_least_pair) f i).A := fun i => i.2
  (bc (ssetO 3 (olst qan) (hnd := fun _ => sc_least_pair.nd))
 (bc (sfor (irng1 (fun _ => m_range) (qac (qadd (qv 2) qint) qan)) (gn 4 (hnd := fun _ => sc_least_pair.nd))
 (b1 (sexpr (qbm PySem.F.plainAttrs_list PySem.F.slot_list_append PySem.F.type_list_append (fun _ => mt_append) simAppend (qv 3) (qac (QO.sh (olc [("row", 7)] (iseq (qcall (fun _ => d_rows_of) hR (by decide) (qac (qv 1) (qac (qv 4) qan)))) (gn 7 (hnd := fun _ => sc_least_pair.nd)) tsn (qtup (qac (qv 7) (qac (qmeth (fun _ => m_Key_idents) (fun i => hR i.1) (by decide) (qv 0) (qac (qv 7) qan)) qan))) (fun _ => blkOk_by (own := [("row", 7)]) (N := N_least_pair) (sc := defScope s_least_pair) (by decide +kernel)) (hnd := fun _ => sc_least_pair.nd))) qan)))))
 (bc (sfor (irng1 (fun _ => m_range) (qac (qadd (qmul qint (qv 2)) qint) qan)) (gn 5 (hnd := fun _ => sc_least_pair.nd))
 (b1 (sfor (irng1 (fun _ => m_range) (qac (qadd (qv 2) qint) qan)) (gn 4 (hnd := fun _ => sc_least_pair.nd))
 (b1 (sif (t3c cLe cLe qint (qsub (qv 5) (qv 4)) (qv 2))
 (bc (sset 6 (qcall (fun _ => d_first_going_wrong) hR (by decide) (qac (qix (qv 3) (qv 4)) (qac (qix (qv 3) (qsub (qv 5) (qv 4))) qan))) (hnd := fun _ => sc_least_pair.nd))
 (b1 (sif (t2 cNotN (qv 6) qnon)
 (b1 (sret (qv 6)))
 bn)))
 bn)))))
 (b1 (sret qnon)))))
abbrev s_Known___init__ : Stmt := inClass (top 29) 0
abbrev N_Known___init__ : List Str := ["self", "key", "row", "ident"]
theorem sc_Known___init__ : FnScope N_Known___init__ ["self", "key", "row"] (defScope s_Known___init__) := ⟨rfl, rfl, rfl, by decide +kernel, rfl, by decide +kernel, by decide +kernel⟩
theorem w_Known___init__ (c_Known : Cls K A.Known) (n_Known_key : NoAttr K A.Known "key") (n_Known_row : NoAttr K A.Known "row") (n_Known_known_by : NoAttr K A.Known "known_by") (m_Key_idents : Me3 P w K mg base 10 A.Key "idents" [.shr, .shr] (sp_Key_idents A)) (n_Known_numbers : NoAttr K A.Known "numbers") (aw : A.w = w) : QB K (CxR 10 P w K mg base N_Known___init__ "Known.__init__" (defScope s_Known___init__) f) (defBody s_Known___init__) (b_Known___init__ A) :=
  have hR : ∀ i, Room 10 (CxR 10 P w K mg base N_Known___init__ "Known.__init__" (defScope s_Known___init__) f i).A := fun i => i.2
  (bc (sfldX c_Known n_Known_key (qv 0) (qv 1))
 (bc (sfldX c_Known n_Known_row (qv 0) (qv 2))
 (bc (sfldX c_Known n_Known_known_by (qv 0) (qmeth (fun _ => m_Key_idents) hR (by decide) (qv 1) (qac (qv 2) qan)))
 (bc (sfldN c_Known n_Known_numbers (qv 0) (odicN (hw := fun _ => aw.symm)))
 (b1 (sfor (iseq (qfld c_Known n_Known_known_by (qv 0))) (gn 3 (hnd := fun _ => sc_Known___init__.nd))
 (b1 (snput hR qint (qfldB c_Known n_Known_numbers (qv 0)) (qv 3) (hw := fun _ => aw.symm)))))))))
abbrev s_Known___getitem__ : Stmt := inClass (top 29) 2
abbrev N_Known___getitem__ : List Str := ["self", "item"]
theorem sc_Known___getitem__ : FnScope N_Known___getitem__ ["self", "item"] (defScope s_Known___getitem__) := ⟨rfl, rfl, rfl, by decide +kernel, rfl, by decide +kernel, by decide +kernel⟩
theorem w_Known___getitem__ (c_Known : Cls K A.Known) (n_Known_row : NoAttr K A.Known "row") (m_bool : mg "bool" = none) (m_isinstance : mg "isinstance" = none) (n_Known_numbers : NoAttr K A.Known "numbers") (n_Known_known_by : NoAttr K A.Known "known_by") (aw : A.w = w) : QB K (CxR 0 P w K mg base N_Known___getitem__ "Known.__getitem__" (defScope s_Known___getitem__) f) (defBody s_Known___getitem__) (b_Known___getitem__ A) :=
  have hR : ∀ i, Room 0 (CxR 0 P w K mg base N_Known___getitem__ "Known.__getitem__" (defScope s_Known___getitem__) f i).A := fun i => i.2
  (bc (sif (QW.t (wor (ttru (qisi (fun _ => m_isinstance) (qac (qv 1) (qac (qty (T := "bool") (fun _ => m_bool)) qan)))) (wo1 (t2 (cNotIn hR) (qv 1) (qfld c_Known n_Known_row (qv 0))))))
 (b1 snever)
 bn)
 (b1 (sret (qnget hR (qfldB c_Known n_Known_numbers (qv 0)) (qix (qfld c_Known n_Known_known_by (qv 0)) (qtidx hR (qfld c_Known n_Known_row (qv 0)) (qac (qv 1) qan))) (hw := fun _ => aw.symm)))))
abbrev s_Known___setitem__ : Stmt := inClass (top 29) 3
abbrev N_Known___setitem__ : List Str := ["self", "item", "number"]
theorem sc_Known___setitem__ : FnScope N_Known___setitem__ ["self", "item", "number"] (defScope s_Known___setitem__) := ⟨rfl, rfl, rfl, by decide +kernel, rfl, by decide +kernel, by decide +kernel⟩
theorem w_Known___setitem__ (c_Known : Cls K A.Known) (n_Known_row : NoAttr K A.Known "row") (m_bool : mg "bool" = none) (m_isinstance : mg "isinstance" = none) (n_Known_numbers : NoAttr K A.Known "numbers") (n_Known_known_by : NoAttr K A.Known "known_by") (aw : A.w = w) : QB K (CxR 0 P w K mg base N_Known___setitem__ "Known.__setitem__" (defScope s_Known___setitem__) f) (defBody s_Known___setitem__) (b_Known___setitem__ A) :=
  have hR : ∀ i, Room 0 (CxR 0 P w K mg base N_Known___setitem__ "Known.__setitem__" (defScope s_Known___setitem__) f i).A := fun i => i.2
  (bc (sif (QW.t (wor (ttru (qisi (fun _ => m_isinstance) (qac (qv 1) (qac (qty (T := "bool") (fun _ => m_bool)) qan)))) (wo1 (t2 (cNotIn hR) (qv 1) (qfld c_Known n_Known_row (qv 0))))))
 (b1 snever)
 bn)
 (b1 (snput hR (qv 2) (qfldB c_Known n_Known_numbers (qv 0)) (qix (qfld c_Known n_Known_known_by (qv 0)) (qtidx hR (qfld c_Known n_Known_row (qv 0)) (qac (qv 1) qan))) (hw := fun _ => aw.symm))))
abbrev s_Known_show : Stmt := inClass (top 29) 4
abbrev N_Known_show : List Str := ["self", "row", "idents", "numbers", "ident"]
theorem sc_Known_show : FnScope N_Known_show ["self", "row"] (defScope s_Known_show) := ⟨rfl, rfl, rfl, by decide +kernel, rfl, by decide +kernel, by decide +kernel⟩
theorem w_Known_show (c_Known : Cls K A.Known) (n_Known_key : NoAttr K A.Known "key") (m_Key_idents : Me3 P w K mg base 10 A.Key "idents" [.shr, .shr] (sp_Key_idents A)) (aw : A.w = w) (n_Known_numbers : NoAttr K A.Known "numbers") (n_Known_row : NoAttr K A.Known "row") (n_Known_known_by : NoAttr K A.Known "known_by") : QB K (CxR 10 P w K mg base N_Known_show "Known.show" (defScope s_Known_show) f) (defBody s_Known_show) (b_Known_show A) :=
  have hR : ∀ i, Room 10 (CxR 10 P w K mg base N_Known_show "Known.show" (defScope s_Known_show) f i).A := fun i => i.2
  (bc (sset 2 (qmeth (fun _ => m_Key_idents) hR (by decide) (qfld c_Known n_Known_key (qv 0)) (qac (qv 1) qan)) (hnd := fun _ => sc_Known_show.nd))
 (bc (ssetO 3 (odicN (hw := fun _ => aw.symm)) (hnd := fun _ => sc_Known_show.nd))
 (bc (sfor (iseq (qv 2)) (gn 4 (hnd := fun _ => sc_Known_show.nd))
 (b1 (snput hR (qng2 hR (qfldB c_Known n_Known_numbers (qv 0)) (qv 4) qint (hw := fun _ => aw.symm)) (qv 3) (qv 4) (hw := fun _ => aw.symm))))
 (bc (sfldX c_Known n_Known_row (qv 0) (qv 1))
 (bc (sfldX c_Known n_Known_known_by (qv 0) (qv 2))
 (b1 (sfldM 3 c_Known n_Known_numbers (qv 0))))))))
abbrev s_Things___init__ : Stmt := inClass (top 30) 0
abbrev N_Things___init__ : List Str := ["self", "row", "item"]
theorem sc_Things___init__ : FnScope N_Things___init__ ["self", "row"] (defScope s_Things___init__) := ⟨rfl, rfl, rfl, by decide +kernel, rfl, by decide +kernel, by decide +kernel⟩
theorem w_Things___init__ (d_check_row : C3 P w K mg base 1 "check_row" [.shr] (sp_check_row A)) (c_Things : Cls K A.Things) (n_Things_row : NoAttr K A.Things "row") (n_Things_numbers : NoAttr K A.Things "numbers") : QB K (CxR 1 P w K mg base N_Things___init__ "Things.__init__" (defScope s_Things___init__) f) (defBody s_Things___init__) (b_Things___init__ A) :=
  have hR : ∀ i, Room 1 (CxR 1 P w K mg base N_Things___init__ "Things.__init__" (defScope s_Things___init__) f i).A := fun i => i.2
  (bc (sexpr (qcall (fun _ => d_check_row) hR (by decide) (qac (qv 1) qan)))
 (bc (sfldX c_Things n_Things_row (qv 0) (qv 1))
 (bc (sfldN c_Things n_Things_numbers (qv 0) odicE)
 (b1 (sfor (iseq (qv 1)) (gn 2 (hnd := fun _ => sc_Things___init__.nd))
 (b1 (sdput hR qint (qfldB c_Things n_Things_numbers (qv 0)) (qv 2))))))))
abbrev s_Things___getitem__ : Stmt := inClass (top 30) 2
abbrev N_Things___getitem__ : List Str := ["self", "item"]
theorem sc_Things___getitem__ : FnScope N_Things___getitem__ ["self", "item"] (defScope s_Things___getitem__) := ⟨rfl, rfl, rfl, by decide +kernel, rfl, by decide +kernel, by decide +kernel⟩
theorem w_Things___getitem__ (c_Things : Cls K A.Things) (n_Things_row : NoAttr K A.Things "row") (m_bool : mg "bool" = none) (m_isinstance : mg "isinstance" = none) (n_Things_numbers : NoAttr K A.Things "numbers") : QB K (CxR 0 P w K mg base N_Things___getitem__ "Things.__getitem__" (defScope s_Things___getitem__) f) (defBody s_Things___getitem__) (b_Things___getitem__ A) :=
  have hR : ∀ i, Room 0 (CxR 0 P w K mg base N_Things___getitem__ "Things.__getitem__" (defScope s_Things___getitem__) f i).A := fun i => i.2
  (bc (sif (QW.t (wor (ttru (qisi (fun _ => m_isinstance) (qac (qv 1) (qac (qty (T := "bool") (fun _ => m_bool)) qan)))) (wo1 (t2 (cNotIn hR) (qv 1) (qfld c_Things n_Things_row (qv 0))))))
 (b1 snever)
 bn)
 (b1 (sret (qdget hR (qfldB c_Things n_Things_numbers (qv 0)) (qv 1)))))
abbrev s_Things___setitem__ : Stmt := inClass (top 30) 3
abbrev N_Things___setitem__ : List Str := ["self", "item", "number"]
theorem sc_Things___setitem__ : FnScope N_Things___setitem__ ["self", "item", "number"] (defScope s_Things___setitem__) := ⟨rfl, rfl, rfl, by decide +kernel, rfl, by decide +kernel, by decide +kernel⟩
theorem w_Things___setitem__ (c_Things : Cls K A.Things) (n_Things_row : NoAttr K A.Things "row") (m_bool : mg "bool" = none) (m_isinstance : mg "isinstance" = none) (n_Things_numbers : NoAttr K A.Things "numbers") : QB K (CxR 0 P w K mg base N_Things___setitem__ "Things.__setitem__" (defScope s_Things___setitem__) f) (defBody s_Things___setitem__) (b_Things___setitem__ A) :=
  have hR : ∀ i, Room 0 (CxR 0 P w K mg base N_Things___setitem__ "Things.__setitem__" (defScope s_Things___setitem__) f i).A := fun i => i.2
  (bc (sif (QW.t (wor (ttru (qisi (fun _ => m_isinstance) (qac (qv 1) (qac (qty (T := "bool") (fun _ => m_bool)) qan)))) (wo1 (t2 (cNotIn hR) (qv 1) (qfld c_Things n_Things_row (qv 0))))))
 (b1 snever)
 bn)
 (b1 (sdput hR (qv 2) (qfldB c_Things n_Things_numbers (qv 0)) (qv 1))))
abbrev s_Things_show : Stmt := inClass (top 30) 4
abbrev N_Things_show : List Str := ["self", "row", "numbers", "item"]
theorem sc_Things_show : FnScope N_Things_show ["self", "row"] (defScope s_Things_show) := ⟨rfl, rfl, rfl, by decide +kernel, rfl, by decide +kernel, by decide +kernel⟩
theorem w_Things_show (d_check_row : C3 P w K mg base 1 "check_row" [.shr] (sp_check_row A)) (c_Things : Cls K A.Things) (n_Things_numbers : NoAttr K A.Things "numbers") (n_Things_row : NoAttr K A.Things "row") : QB K (CxR 1 P w K mg base N_Things_show "Things.show" (defScope s_Things_show) f) (defBody s_Things_show) (b_Things_show A) :=
  have hR : ∀ i, Room 1 (CxR 1 P w K mg base N_Things_show "Things.show" (defScope s_Things_show) f i).A := fun i => i.2
  (bc (sexpr (qcall (fun _ => d_check_row) hR (by decide) (qac (qv 1) qan)))
 (bc (ssetO 2 odicE (hnd := fun _ => sc_Things_show.nd))
 (bc (sfor (iseq (qv 1)) (gn 3 (hnd := fun _ => sc_Things_show.nd))
 (b1 (sdput hR (qdg2 hR (qfldB c_Things n_Things_numbers (qv 0)) (qv 3) qint) (qv 2) (qv 3))))
 (bc (sfldX c_Things n_Things_row (qv 0) (qv 1))
 (b1 (sfldM 2 c_Things n_Things_numbers (qv 0)))))))
abbrev s_is_parting : Stmt := top 31
abbrev N_is_parting : List Str := ["key", "old", "item", "new", "known", "things", "one"]
theorem sc_is_parting : FnScope N_is_parting ["key", "old", "item", "new"] (defScope s_is_parting) := ⟨rfl, rfl, rfl, by decide +kernel, rfl, by decide +kernel, by decide +kernel⟩
theorem w_is_parting (k_Known : MkB3 P w K mg base 11 "Known" A.Known [.shr, .shr] (sp_Known___init__ A)) (k_Things : MkB3 P w K mg base 2 "Things" A.Things [.shr] (sp_Things___init__ A)) (s_Known_set : Sm3 P w K mg base 1 A.Known "__setitem__" [.pab, .shr, .shr] (sp_Known___setitem__ A)) (s_Things_set : Sm3 P w K mg base 1 A.Things "__setitem__" [.pab, .shr, .shr] (sp_Things___setitem__ A)) (m_Known_show : Me3 P w K mg base 11 A.Known "show" [.pab, .shr] (sp_Known_show A)) (m_Things_show : Me3 P w K mg base 2 A.Things "show" [.pab, .shr] (sp_Things_show A)) (s_Known_get : Sm3 P w K mg base 1 A.Known "__getitem__" [.brw, .shr] (sp_Known___getitem__ A)) (s_Things_get : Sm3 P w K mg base 1 A.Things "__getitem__" [.brw, .shr] (sp_Things___getitem__ A)) : QB K (CxR 12 P w K mg base N_is_parting "is_parting" (defScope s_is_parting) f) (defBody s_is_parting) (b_is_parting A) :=
  have hR : ∀ i, Room 12 (CxR 12 P w K mg base N_is_parting "is_parting" (defScope s_is_parting) f i).A := fun i => i.2
  (bc (ssetB 4 (omakeB (fun _ => k_Known) hR (by decide) (qac (qv 0) (qac (qv 1) qan))) (hnd := fun _ => sc_is_parting.nd))
 (bc (ssetB 5 (omakeB (fun _ => k_Things) hR (by decide) (qac (qv 1) qan)) (hnd := fun _ => sc_is_parting.nd))
 (bc (ssetO' (fun _ => s_Known_set) hR (by decide) qint (qv 4) (qv 2))
 (bc (ssetO' (fun _ => s_Things_set) hR (by decide) qint (qv 5) (qv 2))
 (bc (smeth (fun _ => m_Known_show) hR (by decide) (qv 4) (qac (qv 3) qan))
 (bc (smeth (fun _ => m_Things_show) hR (by decide) (qv 5) (qac (qv 3) qan))
 (b1 (sret (q2 (cNe hR) (QO.sh (olc [("one", 6)] (iseq (qv 3)) (gn 6 (hnd := fun _ => sc_is_parting.nd)) (ts1 (t2 (cNe (fun i => hR i.1)) (qgetO (fun _ => s_Known_get) (fun i => hR i.1) (by decide) (qv 4) (qv 6)) (qgetO (fun _ => s_Things_get) (fun i => hR i.1) (by decide) (qv 5) (qv 6)))) (qv 6) (fun _ => blkOk_by (own := [("one", 6)]) (N := N_is_parting) (sc := defScope s_is_parting) (by decide +kernel)) (hnd := fun _ => sc_is_parting.nd))) (qlst qan))))))))))
abbrev s_least_parting : Stmt := top 32
abbrev N_least_parting : List Str := ["key", "menu", "old", "new", "item"]
theorem sc_least_parting : FnScope N_least_parting ["key", "menu"] (defScope s_least_parting) := ⟨rfl, rfl, rfl, by decide +kernel, rfl, by decide +kernel, by decide +kernel⟩
theorem w_least_parting (d_is_parting : C3 P w K mg base 13 "is_parting" [.shr, .shr, .shr, .shr] (sp_is_parting A)) : QB K (CxR 13 P w K mg base N_least_parting "least_parting" (defScope s_least_parting) f) (defBody s_least_parting) (b_least_parting A) :=
  have hR : ∀ i, Room 13 (CxR 13 P w K mg base N_least_parting "least_parting" (defScope s_least_parting) f i).A := fun i => i.2
  (bc (sfor (iseq (qv 1)) (gn 2 (hnd := fun _ => sc_least_parting.nd))
 (b1 (sfor (iseq (qv 1)) (gn 3 (hnd := fun _ => sc_least_parting.nd))
 (b1 (sfor (iseq (qv 2)) (gn 4 (hnd := fun _ => sc_least_parting.nd))
 (b1 (sif (ttru (qcall (fun _ => d_is_parting) hR (by decide) (qac (qv 0) (qac (qv 2) (qac (qv 4) (qac (qv 3) qan))))))
 (b1 (sret (qtup (qac (qv 2) (qac (qv 4) (qac (qv 3) qan))))))
 bn)))))))
 (b1 (sret qnon)))
abbrev s__law_mixed : Stmt := top 34
abbrev N__law_mixed : List Str := ["number", "turn", "first", "second"]
theorem sc__law_mixed : FnScope N__law_mixed ["number", "turn"] (defScope s__law_mixed) := ⟨rfl, rfl, rfl, by decide +kernel, rfl, by decide +kernel, by decide +kernel⟩
theorem w__law_mixed (m_int : mg "int" = none) : QB K (CxR 0 P w K mg base N__law_mixed "_law_mixed" (defScope s__law_mixed) f) (defBody s__law_mixed) (b__law_mixed A) :=
  have hR : ∀ i, Room 0 (CxR 0 P w K mg base N__law_mixed "_law_mixed" (defScope s__law_mixed) f i).A := fun i => i.2
  (bc (sset 2 (qmod (qint1 (fun _ => m_int) (qac (qadd (qmul (qadd (qv 0) qint) qint) (qmul (qadd (qv 1) qint) qint)) qan)) qint) (hnd := fun _ => sc__law_mixed.nd))
 (bc (sset 3 (qmod (qint1 (fun _ => m_int) (qac (qadd (qadd (qmul (qv 2) (qv 2)) (qmul (qv 2) qint)) (qmul (qadd (qv 1) qint) qint)) qan)) qint) (hnd := fun _ => sc__law_mixed.nd))
 (b1 (sret (qmod (qint1 (fun _ => m_int) (qac (qadd (qadd (qfdiv (qv 3) qint) (qmul (qv 3) qint)) (qv 1)) qan)) qint)))))
abbrev s__law_bag : Stmt := top 35
abbrev N__law_bag : List Str := ["script", "numbers", "seed", "at", "cell"]
theorem sc__law_bag : FnScope N__law_bag ["script"] (defScope s__law_bag) := ⟨rfl, rfl, rfl, by decide +kernel, rfl, by decide +kernel, by decide +kernel⟩
theorem w__law_bag (m_int : mg "int" = none) (m_len : mg "len" = none) (m_enumerate : mg "enumerate" = none) (m_abs : mg "abs" = none) : QB K (CxR 0 P w K mg base N__law_bag "_law_bag" (defScope s__law_bag) f) (defBody s__law_bag) (b__law_bag A) :=
  have hR : ∀ i, Room 0 (CxR 0 P w K mg base N__law_bag "_law_bag" (defScope s__law_bag) f i).A := fun i => i.2
  (bc (slc 1 [("cell", 4)] (iseq (qv 0)) (gn 4 (hnd := fun _ => sc__law_bag.nd)) tsn (qint1 (fun _ => m_int) (qac (qv 4) qan)) (fun _ => blkOk_by (own := [("cell", 4)]) (N := N__law_bag) (sc := defScope s__law_bag) (by decide +kernel)) (fun _ => sw_true rfl rfl rfl (by decide +kernel)) (hnd := fun _ => sc__law_bag.nd))
 (bc (sset 2 (qlen (fun _ => m_len) (qac (qv 1) qan)) (hnd := fun _ => sc__law_bag.nd))
 (bc (sfor (ienum (fun _ => m_enumerate) (qac (qsl (qv 1) qno (qpart qint)) qan)) (gtup (gsc (gn 3 (hnd := fun _ => sc__law_bag.nd)) (gsc (gn 4 (hnd := fun _ => sc__law_bag.nd)) gsn)))
 (b1 (sset 2 (qmod (qint1 (fun _ => m_int) (qac (qadd (qadd (qmul (qv 2) qint) (qmod (qint1 (fun _ => m_int) (qac (qabs (fun _ => m_abs) (qac (qv 4) qan)) qan)) qint)) (qmul (qadd (qv 3) qint) (q2 cLt (qv 4) qint))) qan)) qint) (hnd := fun _ => sc__law_bag.nd))))
 (b1 (sretO (olst (qac (qv 1) (qac qint (qac qint (qac qint (qac (qv 2) qan)))))))))))
abbrev s__law_pick : Stmt := top 36
abbrev N__law_pick : List Str := ["bag", "many", "turn", "cell", "worth"]
theorem sc__law_pick : FnScope N__law_pick ["bag", "many"] (defScope s__law_pick) := ⟨rfl, rfl, rfl, by decide +kernel, rfl, by decide +kernel, by decide +kernel⟩
theorem w__law_pick (m_len : mg "len" = none) (m_abs : mg "abs" = none) (d__law_mixed : C3 P w K mg base 1 "_law_mixed" [.shr, .shr] (sp__law_mixed A)) (m_int : mg "int" = none) : QB K (CxR 1 P w K mg base N__law_pick "_law_pick" (defScope s__law_pick) f) (defBody s__law_pick) (b__law_pick A) :=
  have hR : ∀ i, Room 1 (CxR 1 P w K mg base N__law_pick "_law_pick" (defScope s__law_pick) f i).A := fun i => i.2
  (bc (sset 2 (qix (qv 0) qint) (hnd := fun _ => sc__law_pick.nd))
 (bc (sput (qadd (qv 2) qint) (qv 0) qint)
 (bc (sif (QW.t (wa (t2 (cEq hR) (qix (qv 0) qint) qint) (wa1 (t2 cLt (qix (qv 0) qint) (qlen (fun _ => m_len) (qac (qix (qv 0) qint) qan))))))
 (bc (sset 3 (qix (qix (qv 0) qint) (qix (qv 0) qint)) (hnd := fun _ => sc__law_pick.nd))
 (bc (sput (qadd (qix (qv 0) qint) qint) (qv 0) qint)
 (bc (sif (t2 cLt (qabs (fun _ => m_abs) (qac (qv 3) qan)) (qpow qint qint))
 (b1 (sret (qmod (qint1 (fun _ => m_int) (qac (qcall (fun _ => d__law_mixed) hR (by decide) (qac (qadd (qmul qint (qabs (fun _ => m_abs) (qac (qv 3) qan))) (q2 cLt (qv 3) qint)) (qac (qv 2) qan))) qan)) (qv 1))))
 bn)
 (b1 (sput (qabs (fun _ => m_abs) (qac (qv 3) qan)) (qv 0) qint)))))
 bn)
 (bc (sif (t2 (cEq hR) (qix (qv 0) qint) qint)
 (b1 (sret (qmod (qint1 (fun _ => m_int) (qac (qcall (fun _ => d__law_mixed) hR (by decide) (qac (qix (qv 0) qint) (qac (qv 2) qan))) qan)) (qv 1))))
 bn)
 (bc (sset 4 (qmod (qint1 (fun _ => m_int) (qac (qix (qv 0) qint) qan)) (qv 1)) (hnd := fun _ => sc__law_pick.nd))
 (bc (sput (qfdiv (qix (qv 0) qint) (qv 1)) (qv 0) qint)
 (b1 (sret (qv 4)))))))))
abbrev s__law_choice : Stmt := top 37
abbrev N__law_choice : List Str := ["bag", "things"]
theorem sc__law_choice : FnScope N__law_choice ["bag", "things"] (defScope s__law_choice) := ⟨rfl, rfl, rfl, by decide +kernel, rfl, by decide +kernel, by decide +kernel⟩
theorem w__law_choice (m_len : mg "len" = none) (d__law_pick : C3 P w K mg base 2 "_law_pick" [.par, .shr] (sp__law_pick A)) : QB K (CxR 2 P w K mg base N__law_choice "_law_choice" (defScope s__law_choice) f) (defBody s__law_choice) (b__law_choice A) :=
  have hR : ∀ i, Room 2 (CxR 2 P w K mg base N__law_choice "_law_choice" (defScope s__law_choice) f i).A := fun i => i.2
  (b1 (sret (qix (qv 1) (qcall (fun _ => d__law_pick) hR (by decide) (qac (qv 0) (qac (qlen (fun _ => m_len) (qac (qv 1) qan)) qan))))))
abbrev s__law_number : Stmt := top 38
abbrev N__law_number : List Str := ["thing"]
theorem sc__law_number : FnScope N__law_number ["thing"] (defScope s__law_number) := ⟨rfl, rfl, rfl, by decide +kernel, rfl, by decide +kernel, by decide +kernel⟩
theorem w__law_number (m_bool : mg "bool" = none) (m_isinstance : mg "isinstance" = none) (m_int : mg "int" = none) : QB K (CxR 0 P w K mg base N__law_number "_law_number" (defScope s__law_number) f) (defBody s__law_number) (b__law_number A) :=
  have hR : ∀ i, Room 0 (CxR 0 P w K mg base N__law_number "_law_number" (defScope s__law_number) f i).A := fun i => i.2
  (b1 (sret (qAnd (qisi (fun _ => m_isinstance) (qac (qv 0) (qac (qty (T := "int") (fun _ => m_int)) qan))) (q1b (qNot (qisi (fun _ => m_isinstance) (qac (qv 0) (qac (qty (T := "bool") (fun _ => m_bool)) qan))))))))
abbrev s__law_form : Stmt := top 39
abbrev N__law_form : List Str := ["bag", "readable", "levels", "way", "first", "second"]
theorem sc__law_form : FnScope N__law_form ["bag", "readable", "levels"] (defScope s__law_form) := ⟨rfl, rfl, rfl, by decide +kernel, rfl, by decide +kernel, by decide +kernel⟩
theorem w__law_form {lv : Nat} {sm : S3} (d__law_pick : C3 P w K mg base 2 "_law_pick" [.par, .shr] (sp__law_pick A)) (d__law_choice : C3 P w K mg base 3 "_law_choice" [.par, .brw] (sp__law_choice A)) (me : C3 P w K mg base lv "_law_form" [.par, .shr, .shr] sm) (hlv : 3 ≤ lv) : QB K (CxR lv P w K mg base N__law_form "_law_form" (defScope s__law_form) f) (defBody s__law_form) (b__law_form A sm) :=
  have hR : ∀ i, Room lv (CxR lv P w K mg base N__law_form "_law_form" (defScope s__law_form) f i).A := fun i => i.2
  (bc (sset 3 (qcall (fun _ => d__law_pick) hR (Nat.le_trans (by decide) hlv) (qac (qv 0) (qac qint qan))) (hnd := fun _ => sc__law_form.nd))
 (bc (sif (QW.t (wor (t2 cLe (qv 2) qint) (wo1 (t2 cLt (qv 3) qint))))
 (bc (sif (QW.t (wor (tNot' (ttru (qv 1))) (wo1 (QW.t (wa (t2 (cEq hR) (qv 3) qint) (wa1 (t2 (cEq hR) (qcall (fun _ => d__law_pick) hR (Nat.le_trans (by decide) hlv) (qac (qv 0) (qac qint qan))) qint)))))))
 (b1 (sret (qtup (qac qstr (qac (qcall (fun _ => d__law_pick) hR (Nat.le_trans (by decide) hlv) (qac (qv 0) (qac qint qan))) qan)))))
 bn)
 (b1 (sret (qtup (qac qstr (qac (qcall (fun _ => d__law_choice) hR (Nat.le_trans (by decide) hlv) (qac (qv 0) (qac (qv 1) qan))) qan))))))
 bn)
 (bc (sset 4 (qcall (fun _ => me) hR (Nat.le_refl _) (qac (qv 0) (qac (qv 1) (qac (qsub (qv 2) qint) qan)))) (hnd := fun _ => sc__law_form.nd))
 (bc (sset 5 (qcall (fun _ => me) hR (Nat.le_refl _) (qac (qv 0) (qac (qv 1) (qac (qsub (qv 2) qint) qan)))) (hnd := fun _ => sc__law_form.nd))
 (bc (sif (t2 cLt (qv 3) qint)
 (b1 (sret (qtup (qac (qix (qlst (qac qstr (qac qstr (qac qstr qan)))) (qsub (qv 3) qint)) (qac (qv 4) (qac (qv 5) qan))))))
 bn)
 (b1 (sret (qtup (qac qstr (qac (qv 4) (qac (qv 5) (qac (qcall (fun _ => me) hR (Nat.le_refl _) (qac (qv 0) (qac (qv 1) (qac (qsub (qv 2) qint) qan)))) qan))))))))))))
abbrev s__law_value : Stmt := top 40
abbrev N__law_value : List Str := ["form", "worths", "word", "first", "second"]
theorem sc__law_value : FnScope N__law_value ["form", "worths"] (defScope s__law_value) := ⟨rfl, rfl, rfl, by decide +kernel, rfl, by decide +kernel, by decide +kernel⟩
theorem w__law_value {lv : Nat} {sm : S3} (me : C3 P w K mg base lv "_law_value" [.shr, .brw] sm) (m_int : mg "int" = none) : QB K (CxR lv P w K mg base N__law_value "_law_value" (defScope s__law_value) f) (defBody s__law_value) (b__law_value A sm) :=
  have hR : ∀ i, Room lv (CxR lv P w K mg base N__law_value "_law_value" (defScope s__law_value) f i).A := fun i => i.2
  (bc (sset 2 (qix (qv 0) qint) (hnd := fun _ => sc__law_value.nd))
 (bc (sif (QW.t (wor (t2 (cEq hR) (qv 2) qstr) (wo1 (t2 (cEq hR) (qv 2) qstr))))
 (b1 (sret (qif (t2 (cEq hR) (qv 2) qstr) (qix (qv 0) qint) (qdget hR (qv 1) (qix (qv 0) qint)))))
 bn)
 (bc (sset 3 (qcall (fun _ => me) hR (Nat.le_refl _) (qac (qix (qv 0) qint) (qac (qv 1) qan))) (hnd := fun _ => sc__law_value.nd))
 (bc (sif (t2 (cEq hR) (qv 2) qstr)
 (b1 (sret (qcall (fun _ => me) hR (Nat.le_refl _) (qac (qif (t2 (cNe hR) (qv 3) qint) (qix (qv 0) qint) (qix (qv 0) qint)) (qac (qv 1) qan)))))
 bn)
 (bc (sset 4 (qcall (fun _ => me) hR (Nat.le_refl _) (qac (qix (qv 0) qint) (qac (qv 1) qan))) (hnd := fun _ => sc__law_value.nd))
 (b1 (sret (qif (t2 (cEq hR) (qv 2) qstr) (qmod (qint1 (fun _ => m_int) (qac (qadd (qv 3) (qv 4)) qan)) qint) (qint1 (fun _ => m_int) (qac (q2 (cEq hR) (qv 3) (qv 4)) qan))))))))))
abbrev s__law_idents : Stmt := top 41
abbrev N__law_idents : List Str := ["key", "row", "out", "at", "item", "worth", "told"]
theorem sc__law_idents : FnScope N__law_idents ["key", "row"] (defScope s__law_idents) := ⟨rfl, rfl, rfl, by decide +kernel, rfl, by decide +kernel, by decide +kernel⟩
theorem w__law_idents (m_enumerate : mg "enumerate" = none) (d__law_value : C3 P w K mg base 8 "_law_value" [.shr, .brw] (sp__law_value A)) (m_len : mg "len" = none) : QB K (CxR 8 P w K mg base N__law_idents "_law_idents" (defScope s__law_idents) f) (defBody s__law_idents) (b__law_idents A) :=
  have hR : ∀ i, Room 8 (CxR 8 P w K mg base N__law_idents "_law_idents" (defScope s__law_idents) f i).A := fun i => i.2
  (bc (ssetO 2 (olst qan) (hnd := fun _ => sc__law_idents.nd))
 (bc (sfor (ienum (fun _ => m_enumerate) (qac (qv 1) qan)) (gtup (gsc (gn 3 (hnd := fun _ => sc__law_idents.nd)) (gsc (gn 4 (hnd := fun _ => sc__law_idents.nd)) gsn)))
 (bc (sset 5 (qcall (fun _ => d__law_value) hR (by decide) (qac (qv 0) (qac (QO.sh (odisp (qdc (qv 4) (qdc (qv 3) qdn)))) qan))) (hnd := fun _ => sc__law_idents.nd))
 (b1 (sexpr (qbm PySem.F.plainAttrs_list PySem.F.slot_list_append PySem.F.type_list_append (fun _ => mt_append) simAppend (qv 2) (qac (qtup (qac (qv 5) (qac (qlen (fun _ => m_len) (qac (QO.sh (olc [("told", 6)] (iseq (qv 2)) (gn 6 (hnd := fun _ => sc__law_idents.nd)) (ts1 (t2 (cEq (fun i => hR i.1)) (qix (qv 6) qint) (qv 5))) (qv 6) (fun _ => blkOk_by (own := [("told", 6)]) (N := N__law_idents) (sc := defScope s__law_idents) (by decide +kernel)) (hnd := fun _ => sc__law_idents.nd))) qan)) qan))) qan))))))
 (b1 (sret (qv 2)))))
abbrev s__law_any_key : Stmt := top 42
abbrev N__law_any_key : List Str := ["bag", "way", "worth", "spot", "item"]
theorem sc__law_any_key : FnScope N__law_any_key ["bag"] (defScope s__law_any_key) := ⟨rfl, rfl, rfl, by decide +kernel, rfl, by decide +kernel, by decide +kernel⟩
theorem w__law_any_key (d__law_pick : C3 P w K mg base 2 "_law_pick" [.par, .shr] (sp__law_pick A)) (d__law_choice : C3 P w K mg base 3 "_law_choice" [.par, .brw] (sp__law_choice A)) (d__law_form : C3 P w K mg base 11 "_law_form" [.par, .shr, .shr] (sp__law_form A)) : QB K (CxR 11 P w K mg base N__law_any_key "_law_any_key" (defScope s__law_any_key) f) (defBody s__law_any_key) (b__law_any_key A) :=
  have hR : ∀ i, Room 11 (CxR 11 P w K mg base N__law_any_key "_law_any_key" (defScope s__law_any_key) f i).A := fun i => i.2
  (bc (sset 1 (qcall (fun _ => d__law_pick) hR (by decide) (qac (qv 0) (qac qint qan))) (hnd := fun _ => sc__law_any_key.nd))
 (bc (sset 2 (qcall (fun _ => d__law_choice) hR (by decide) (qac (qv 0) (qac (qlst (qac qint (qac qint (qac qint (qac qint (qac qint (qac qint (qac qint (qac qint (qac qint (qac qint (qac qint qan)))))))))))) qan))) (hnd := fun _ => sc__law_any_key.nd))
 (bc (sset 3 (qcall (fun _ => d__law_choice) hR (by decide) (qac (qv 0) (qac (qlst (qac qint (qac qint (qac qint (qac qint (qac qint (qac qint qan))))))) qan))) (hnd := fun _ => sc__law_any_key.nd))
 (bc (sset 4 (qtup (qac qstr (qac qstr qan))) (hnd := fun _ => sc__law_any_key.nd))
 (bc (sif (t2 (cEq hR) (qv 1) qint)
 (b1 (sret (qv 4)))
 bn)
 (bc (sif (t2 (cEq hR) (qv 1) qint)
 (b1 (sret (qtup (qac qstr (qac qstr qan)))))
 bn)
 (bc (sif (t2 (cEq hR) (qv 1) qint)
 (b1 (sret (qtup (qac qstr (qac (qv 2) qan)))))
 bn)
 (bc (sif (t2 (cEq hR) (qv 1) qint)
 (b1 (sret (qtup (qac qstr (qac (qv 4) (qac (qtup (qac qstr (qac (qv 2) qan))) qan))))))
 bn)
 (bc (sif (t2 (cEq hR) (qv 1) qint)
 (b1 (sret (qtup (qac qstr (qac (qv 4) (qac (qv 4) qan))))))
 bn)
 (bc (sif (t2 (cEq hR) (qv 1) qint)
 (b1 (sret (qtup (qac qstr (qac (qv 4) (qac (qtup (qac qstr (qac (qv 2) qan))) qan))))))
 bn)
 (bc (sif (t2 (cEq hR) (qv 1) qint)
 (b1 (sret (qtup (qac qstr (qac (qtup (qac qstr (qac (qv 4) (qac (qtup (qac qstr (qac (qv 2) qan))) qan)))) (qac (qtup (qac qstr (qac (qcall (fun _ => d__law_pick) hR (by decide) (qac (qv 0) (qac qint qan))) qan))) (qac (qv 4) qan)))))))
 bn)
 (bc (sif (t2 (cEq hR) (qv 1) qint)
 (b1 (sret (qtup (qac qstr (qac (qv 4) (qac (qtup (qac qstr (qac qstr qan))) qan))))))
 bn)
 (bc (sif (t2 (cEq hR) (qv 1) qint)
 (b1 (sret (qtup (qac qstr (qac (qtup (qac qstr (qac (qtup (qac qstr (qac qstr qan))) (qac (qtup (qac qstr (qac (qv 3) qan))) qan)))) (qac (qtup (qac qstr (qac (qv 2) qan))) (qac (qv 4) qan)))))))
 bn)
 (b1 (sret (qcall (fun _ => d__law_form) hR (by decide) (qac (qv 0) (qac (qlst (qac qstr (qac qstr qan))) (qac (qadd qint (qcall (fun _ => d__law_pick) hR (by decide) (qac (qv 0) (qac qint qan)))) qan)))))))))))))))))))
abbrev s__law_told_items : Stmt := top 43
abbrev N__law_told_items : List Str := ["told", "due", "at"]
theorem sc__law_told_items : FnScope N__law_told_items ["told", "due"] (defScope s__law_told_items) := ⟨rfl, rfl, rfl, by decide +kernel, rfl, by decide +kernel, by decide +kernel⟩
theorem w__law_told_items (m_len : mg "len" = none) (m_tuple : mg "tuple" = none) (m_isinstance : mg "isinstance" = none) (m_range : mg "range" = none) (d__law_number : C3 P w K mg base 1 "_law_number" [.shr] (sp__law_number A)) : QB K (CxR 1 P w K mg base N__law_told_items "_law_told_items" (defScope s__law_told_items) f) (defBody s__law_told_items) (b__law_told_items A) :=
  have hR : ∀ i, Room 1 (CxR 1 P w K mg base N__law_told_items "_law_told_items" (defScope s__law_told_items) f i).A := fun i => i.2
  (bc (sif (QW.t (wor (tNot' (ttru (qisi (fun _ => m_isinstance) (qac (qv 0) (qac (qty (T := "tuple") (fun _ => m_tuple)) qan))))) (wo1 (t2 (cNe hR) (qlen (fun _ => m_len) (qac (qv 0) qan)) (qlen (fun _ => m_len) (qac (qv 1) qan))))))
 (b1 (sret qbl))
 bn)
 (bc (sfor (irng1 (fun _ => m_range) (qac (qlen (fun _ => m_len) (qac (qv 1) qan)) qan)) (gn 2 (hnd := fun _ => sc__law_told_items.nd))
 (b1 (sif (QW.t (wor (tNot' (ttru (qcall (fun _ => d__law_number) hR (by decide) (qac (qix (qv 0) (qv 2)) qan)))) (wo1 (t2 (cNe hR) (qix (qv 0) (qv 2)) (qix (qv 1) (qv 2))))))
 (b1 (sret qbl))
 bn)))
 (b1 (sret qbl))))
abbrev s__law_all_rows : Stmt := top 44
abbrev N__law_all_rows : List Str := ["size", "places", "lists", "length", "longer", "row", "item"]
theorem sc__law_all_rows : FnScope N__law_all_rows ["size", "places"] (defScope s__law_all_rows) := ⟨rfl, rfl, rfl, by decide +kernel, rfl, by decide +kernel, by decide +kernel⟩
theorem w__law_all_rows (m_range : mg "range" = none) : QB K (CxR 0 P w K mg base N__law_all_rows "_law_all_rows" (defScope s__law_all_rows) f) (defBody s__law_all_rows) (b__law_all_rows A) :=
  have hR : ∀ i, Room 0 (CxR 0 P w K mg base N__law_all_rows "_law_all_rows" (defScope s__law_all_rows) f i).A := fun i => i.2
  (bc (ssetO 2 (olst (qac (qlst (qac (qtup qan) qan)) qan)) (hnd := fun _ => sc__law_all_rows.nd))
 (bc (sfor (irng1 (fun _ => m_range) (qac (qv 1) qan)) (gn 3 (hnd := fun _ => sc__law_all_rows.nd))
 (bc (ssetO 4 (olst qan) (hnd := fun _ => sc__law_all_rows.nd))
 (bc (sfor (iseq (qix (qv 2) (qv 3))) (gn 5 (hnd := fun _ => sc__law_all_rows.nd))
 (b1 (sexpr (qbm PySem.F.plainAttrs_list PySem.F.slot_list_extend PySem.F.type_list_extend (fun _ => mt_extend) simExtend (qv 4) (qac (QO.sh (olc [("item", 6)] (irng1 (fun _ => m_range) (qac (qv 0) qan)) (gn 6 (hnd := fun _ => sc__law_all_rows.nd)) (ts1 (t2 (cNotIn (fun i => hR i.1)) (qv 6) (qv 5))) (qadd (qv 5) (qtup (qac (qv 6) qan))) (fun _ => blkOk_by (own := [("item", 6)]) (N := N__law_all_rows) (sc := defScope s__law_all_rows) (by decide +kernel)) (hnd := fun _ => sc__law_all_rows.nd))) qan)))))
 (b1 (sfrz 4 (sexpr (qbm PySem.F.plainAttrs_list PySem.F.slot_list_append PySem.F.type_list_append (fun _ => mt_append) simAppend (qv 2) (qac (qv 4) qan))))))))
 (b1 (sret (qv 2)))))
abbrev s__law_unlike_rows : Stmt := top 45
abbrev N__law_unlike_rows : List Str := ["old", "before", "new", "behind", "one", "two"]
theorem sc__law_unlike_rows : FnScope N__law_unlike_rows ["old", "before", "new", "behind"] (defScope s__law_unlike_rows) := ⟨rfl, rfl, rfl, by decide +kernel, rfl, by decide +kernel, by decide +kernel⟩
theorem w__law_unlike_rows (m_len : mg "len" = none) (m_range : mg "range" = none) : QB K (CxR 0 P w K mg base N__law_unlike_rows "_law_unlike_rows" (defScope s__law_unlike_rows) f) (defBody s__law_unlike_rows) (b__law_unlike_rows A) :=
  have hR : ∀ i, Room 0 (CxR 0 P w K mg base N__law_unlike_rows "_law_unlike_rows" (defScope s__law_unlike_rows) f i).A := fun i => i.2
  (bc (sfor (irng1 (fun _ => m_range) (qac (qlen (fun _ => m_len) (qac (qv 0) qan)) qan)) (gn 4 (hnd := fun _ => sc__law_unlike_rows.nd))
 (b1 (sfor (irng1 (fun _ => m_range) (qac (qlen (fun _ => m_len) (qac (qv 2) qan)) qan)) (gn 5 (hnd := fun _ => sc__law_unlike_rows.nd))
 (b1 (sif (t2 (cNe hR) (q2 (cEq hR) (qix (qv 1) (qv 4)) (qix (qv 3) (qv 5))) (q2 (cEq hR) (qix (qv 0) (qv 4)) (qix (qv 2) (qv 5))))
 (b1 (sret qbl))
 bn)))))
 (b1 (sret qbl)))
abbrev s__law_first_of : Stmt := top 46
abbrev N__law_first_of : List Str := ["form", "olds", "news", "marks", "old", "before", "at", "row"]
theorem sc__law_first_of : FnScope N__law_first_of ["form", "olds", "news"] (defScope s__law_first_of) := ⟨rfl, rfl, rfl, by decide +kernel, rfl, by decide +kernel, by decide +kernel⟩
theorem w__law_first_of (d__law_idents : C3 P w K mg base 9 "_law_idents" [.shr, .shr] (sp__law_idents A)) (m_len : mg "len" = none) (m_range : mg "range" = none) (d__law_unlike_rows : C3 P w K mg base 1 "_law_unlike_rows" [.shr, .shr, .shr, .shr] (sp__law_unlike_rows A)) : QB K (CxR 9 P w K mg base N__law_first_of "_law_first_of" (defScope s__law_first_of) f) (defBody s__law_first_of) (b__law_first_of A) :=
  have hR : ∀ i, Room 9 (CxR 9 P w K mg base N__law_first_of "_law_first_of" (defScope s__law_first_of) f i).A := fun i => i.2
  (bc (slc 3 [("row", 7)] (iseq (qv 2)) (gn 7 (hnd := fun _ => sc__law_first_of.nd)) tsn (qcall (fun _ => d__law_idents) (fun i => hR i.1) (by decide) (qac (qv 0) (qac (qv 7) qan))) (fun _ => blkOk_by (own := [("row", 7)]) (N := N__law_first_of) (sc := defScope s__law_first_of) (by decide +kernel)) (fun _ => sw_true rfl rfl rfl (by decide +kernel)) (hnd := fun _ => sc__law_first_of.nd))
 (bc (sfor (iseq (qv 1)) (gn 4 (hnd := fun _ => sc__law_first_of.nd))
 (bc (sset 5 (qcall (fun _ => d__law_idents) hR (by decide) (qac (qv 0) (qac (qv 4) qan))) (hnd := fun _ => sc__law_first_of.nd))
 (b1 (sfor (irng1 (fun _ => m_range) (qac (qlen (fun _ => m_len) (qac (qv 2) qan)) qan)) (gn 6 (hnd := fun _ => sc__law_first_of.nd))
 (b1 (sif (ttru (qcall (fun _ => d__law_unlike_rows) hR (by decide) (qac (qv 4) (qac (qv 5) (qac (qix (qv 2) (qv 6)) (qac (qix (qv 3) (qv 6)) qan))))))
 (b1 (sret (qlst (qac (qv 4) (qac (qix (qv 2) (qv 6)) qan)))))
 bn))))))
 (b1 (sret (qlst qan)))))
abbrev s__law_least : Stmt := top 47
abbrev N__law_least : List Str := ["form", "size", "places", "lists", "total", "length", "found"]
theorem sc__law_least : FnScope N__law_least ["form", "size", "places"] (defScope s__law_least) := ⟨rfl, rfl, rfl, by decide +kernel, rfl, by decide +kernel, by decide +kernel⟩
theorem w__law_least (d__law_all_rows : C3 P w K mg base 1 "_law_all_rows" [.shr, .shr] (sp__law_all_rows A)) (m_range : mg "range" = none) (d__law_first_of : C3 P w K mg base 10 "_law_first_of" [.shr, .shr, .shr] (sp__law_first_of A)) : QB K (CxR 10 P w K mg base N__law_least "_law_least" (defScope s__law_least) f) (defBody s__law_least) (b__law_least A) :=
  have hR : ∀ i, Room 10 (CxR 10 P w K mg base N__law_least "_law_least" (defScope s__law_least) f i).A := fun i => i.2
  (bc (sset 3 (qcall (fun _ => d__law_all_rows) hR (by decide) (qac (qv 1) (qac (qv 2) qan))) (hnd := fun _ => sc__law_least.nd))
 (bc (sfor (irng1 (fun _ => m_range) (qac (qadd (qmul qint (qv 2)) qint) qan)) (gn 4 (hnd := fun _ => sc__law_least.nd))
 (b1 (sfor (irng1 (fun _ => m_range) (qac (qadd (qv 2) qint) qan)) (gn 5 (hnd := fun _ => sc__law_least.nd))
 (b1 (sif (QW.t (wa (t2 cLe qint (qsub (qv 4) (qv 5))) (wa1 (t2 cLe (qsub (qv 4) (qv 5)) (qv 2)))))
 (bc (sset 6 (qcall (fun _ => d__law_first_of) hR (by decide) (qac (qv 0) (qac (qix (qv 3) (qv 5)) (qac (qix (qv 3) (qsub (qv 4) (qv 5))) qan)))) (hnd := fun _ => sc__law_least.nd))
 (b1 (sif (ttru (qv 6))
 (b1 (sret (qv 6)))
 bn)))
 bn)))))
 (b1 (sret (qlst qan)))))
abbrev s__law_plain : Stmt := top 48
abbrev N__law_plain : List Str := ["form", "size", "places", "most", "values", "item", "first", "at"]
theorem sc__law_plain : FnScope N__law_plain ["form", "size", "places"] (defScope s__law_plain) := ⟨rfl, rfl, rfl, by decide +kernel, rfl, by decide +kernel, by decide +kernel⟩
theorem w__law_plain (m_range : mg "range" = none) (d__law_value : C3 P w K mg base 8 "_law_value" [.shr, .brw] (sp__law_value A)) : QB K (CxR 8 P w K mg base N__law_plain "_law_plain" (defScope s__law_plain) f) (defBody s__law_plain) (b__law_plain A) :=
  have hR : ∀ i, Room 8 (CxR 8 P w K mg base N__law_plain "_law_plain" (defScope s__law_plain) f i).A := fun i => i.2
  (bc (sset 3 (qif (t2 cLt (qv 2) (qv 1)) (qv 2) (qv 1)) (hnd := fun _ => sc__law_plain.nd))
 (bc (ssetO 4 (olst qan) (hnd := fun _ => sc__law_plain.nd))
 (bc (sfor (irng1 (fun _ => m_range) (qac (qv 1) qan)) (gn 5 (hnd := fun _ => sc__law_plain.nd))
 (bc (sset 6 (qcall (fun _ => d__law_value) hR (by decide) (qac (qv 0) (qac (QO.sh (odisp (qdc (qv 5) (qdc qint qdn)))) qan))) (hnd := fun _ => sc__law_plain.nd))
 (bc (sfor (irng1 (fun _ => m_range) (qac (qv 3) qan)) (gn 7 (hnd := fun _ => sc__law_plain.nd))
 (b1 (sif (t2 (cNe hR) (qcall (fun _ => d__law_value) hR (by decide) (qac (qv 0) (qac (QO.sh (odisp (qdc (qv 5) (qdc (qv 7) qdn)))) qan))) (qv 6))
 (b1 (sret qbl))
 bn)))
 (bc (sif (t2 (cIn hR) (qv 6) (qv 4))
 (b1 (sret qbl))
 bn)
 (b1 (sexpr (qbm PySem.F.plainAttrs_list PySem.F.slot_list_append PySem.F.type_list_append (fun _ => mt_append) simAppend (qv 4) (qac (qv 6) qan))))))))
 (b1 (sret qbl)))))
abbrev s__law_right : Stmt := top 49
abbrev N__law_right : List Str := ["key", "form", "size", "places", "menu", "due", "told", "shown"]
theorem sc__law_right : FnScope N__law_right ["key", "form", "size", "places", "menu"] (defScope s__law_right) := ⟨rfl, rfl, rfl, by decide +kernel, rfl, by decide +kernel, by decide +kernel⟩
theorem w__law_right (d__law_least : C3 P w K mg base 11 "_law_least" [.shr, .shr, .shr] (sp__law_least A)) (d_least_pair : C3 P w K mg base 11 "least_pair" [.shr, .shr, .shr] (sp_least_pair A)) (d__law_plain : C3 P w K mg base 9 "_law_plain" [.shr, .shr, .shr] (sp__law_plain A)) (d_least_parting : C3 P w K mg base 14 "least_parting" [.shr, .shr] (sp_least_parting A)) (d_faithful : C3 P w K mg base 11 "faithful" [.shr, .shr] (sp_faithful A)) (m_len : mg "len" = none) (m_tuple : mg "tuple" = none) (m_isinstance : mg "isinstance" = none) (d__law_told_items : C3 P w K mg base 2 "_law_told_items" [.shr, .shr] (sp__law_told_items A)) : QB K (CxR 14 P w K mg base N__law_right "_law_right" (defScope s__law_right) f) (defBody s__law_right) (b__law_right A) :=
  have hR : ∀ i, Room 14 (CxR 14 P w K mg base N__law_right "_law_right" (defScope s__law_right) f i).A := fun i => i.2
  (bc (sset 5 (qcall (fun _ => d__law_least) hR (by decide) (qac (qv 1) (qac (qv 2) (qac (qv 3) qan)))) (hnd := fun _ => sc__law_right.nd))
 (bc (sset 6 (qcall (fun _ => d_least_pair) hR (by decide) (qac (qv 0) (qac (qv 2) (qac (qv 3) qan)))) (hnd := fun _ => sc__law_right.nd))
 (bc (sif (t2 (cNe hR) (q2 cIsN (qv 6) qnon) (qcall (fun _ => d__law_plain) hR (by decide) (qac (qv 1) (qac (qv 2) (qac (qv 3) qan)))))
 (b1 (sret qbl))
 bn)
 (bc (sif (t2 cIsN (qv 6) qnon)
 (b1 (sret (qAnd (qNot (qv 5)) (qAnd (q2 cIsN (qcall (fun _ => d_faithful) hR (by decide) (qac (qv 0) (qac (qv 4) qan))) qnon) (q1b (q2 cIsN (qcall (fun _ => d_least_parting) hR (by decide) (qac (qv 0) (qac (qv 4) qan))) qnon))))))
 bn)
 (bc (sif (QW.t (wor (tNot' (ttru (qv 5))) (wor (tNot' (ttru (qisi (fun _ => m_isinstance) (qac (qv 6) (qac (qty (T := "tuple") (fun _ => m_tuple)) qan))))) (wor (t2 (cNe hR) (qlen (fun _ => m_len) (qac (qv 6) qan)) qint) (wo1 (t2 (cNe hR) (qlen (fun _ => m_len) (qac (qix (qv 5) qint) qan)) qint))))))
 (b1 (sret qbl))
 bn)
 (bc (sif (QW.t (wor (tNot' (ttru (qcall (fun _ => d__law_told_items) hR (by decide) (qac (qix (qv 6) qint) (qac (qix (qv 5) qint) qan))))) (wo1 (tNot' (ttru (qcall (fun _ => d__law_told_items) hR (by decide) (qac (qix (qv 6) qint) (qac (qix (qv 5) qint) qan))))))))
 (b1 (sret qbl))
 bn)
 (bc (sset 7 (qcall (fun _ => d_faithful) hR (by decide) (qac (qv 0) (qac (qv 6) qan))) (hnd := fun _ => sc__law_right.nd))
 (bc (sif (QW.t (wor (tNot' (ttru (qisi (fun _ => m_isinstance) (qac (qv 7) (qac (qty (T := "tuple") (fun _ => m_tuple)) qan))))) (wo1 (t2 (cNe hR) (qlen (fun _ => m_len) (qac (qv 7) qan)) qint))))
 (b1 (sret qbl))
 bn)
 (b1 (sret (qAnd (qcall (fun _ => d__law_told_items) hR (by decide) (qac (qix (qv 7) qint) (qac (qix (qv 5) qint) qan))) (q1b (qcall (fun _ => d__law_told_items) hR (by decide) (qac (qix (qv 7) qint) (qac (qix (qv 5) qint) qan)))))))))))))))
abbrev s__law_menu_of : Stmt := top 50
abbrev N__law_menu_of : List Str := ["bag", "size", "places", "rows", "length", "step"]
theorem sc__law_menu_of : FnScope N__law_menu_of ["bag", "size", "places"] (defScope s__law_menu_of) := ⟨rfl, rfl, rfl, by decide +kernel, rfl, by decide +kernel, by decide +kernel⟩
theorem w__law_menu_of (d__law_all_rows : C3 P w K mg base 1 "_law_all_rows" [.shr, .shr] (sp__law_all_rows A)) (d__law_pick : C3 P w K mg base 2 "_law_pick" [.par, .shr] (sp__law_pick A)) (m_range : mg "range" = none) (d__law_choice : C3 P w K mg base 3 "_law_choice" [.par, .brw] (sp__law_choice A)) (m_tuple : mg "tuple" = none) : QB K (CxR 3 P w K mg base N__law_menu_of "_law_menu_of" (defScope s__law_menu_of) f) (defBody s__law_menu_of) (b__law_menu_of A) :=
  have hR : ∀ i, Room 3 (CxR 3 P w K mg base N__law_menu_of "_law_menu_of" (defScope s__law_menu_of) f i).A := fun i => i.2
  (bc (ssetO 3 (olst qan) (hnd := fun _ => sc__law_menu_of.nd))
 (bc (sfor (iseq (qcall (fun _ => d__law_all_rows) hR (by decide) (qac (qv 1) (qac (qv 2) qan)))) (gn 4 (hnd := fun _ => sc__law_menu_of.nd))
 (b1 (sexpr (qbm PySem.F.plainAttrs_list PySem.F.slot_list_extend PySem.F.type_list_extend (fun _ => mt_extend) simExtend (qv 3) (qac (qv 4) qan)))))
 (b1 (sret (qtupC (fun _ => m_tuple) (qac (QO.sh (olc [("step", 5)] (irng1 (fun _ => m_range) (qac (qadd qint (qcall (fun _ => d__law_pick) hR (by decide) (qac (qv 0) (qac qint qan)))) qan)) (gn 5 (hnd := fun _ => sc__law_menu_of.nd)) tsn (qcall (fun _ => d__law_choice) (fun i => hR i.1) (by decide) (qac (qv 0) (qac (qv 3) qan))) (fun _ => blkOk_by (own := [("step", 5)]) (N := N__law_menu_of) (sc := defScope s__law_menu_of) (by decide +kernel)) (hnd := fun _ => sc__law_menu_of.nd))) qan))))))
abbrev s_law : Stmt := top 51
abbrev N_law : List Str := ["script", "bag", "forms", "both", "size", "places", "menu", "less", "fewer", "other", "form"]
theorem sc_law : FnScope N_law ["script"] (defScope s_law) := ⟨rfl, rfl, rfl, by decide +kernel, rfl, by decide +kernel, by decide +kernel⟩
theorem w_law (d__law_bag : C3 P w K mg base 1 "_law_bag" [.shr] (sp__law_bag A)) (d__law_any_key : C3 P w K mg base 12 "_law_any_key" [.par] (sp__law_any_key A)) (k_Key : Mk3 P w K mg base 9 "Key" A.Key [.shr] (sp_Key___init__ A)) (d__law_pick : C3 P w K mg base 2 "_law_pick" [.par, .shr] (sp__law_pick A)) (d__law_menu_of : C3 P w K mg base 4 "_law_menu_of" [.par, .shr, .shr] (sp__law_menu_of A)) (d__law_right : C3 P w K mg base 15 "_law_right" [.shr, .shr, .shr, .shr, .shr] (sp__law_right A)) : QB K (CxR 15 P w K mg base N_law "law" (defScope s_law) f) (defBody s_law) (b_law A) :=
  have hR : ∀ i, Room 15 (CxR 15 P w K mg base N_law "law" (defScope s_law) f i).A := fun i => i.2
  (bc (ssetO 1 (ocall (fun _ => d__law_bag) hR (by decide) (qac (qv 0) qan)) (hnd := fun _ => sc_law.nd))
 (bc (sset 2 (qlst (qac (qcall (fun _ => d__law_any_key) hR (by decide) (qac (qv 1) qan)) (qac (qcall (fun _ => d__law_any_key) hR (by decide) (qac (qv 1) qan)) qan))) (hnd := fun _ => sc_law.nd))
 (bc (slc 3 [("form", 10)] (iseq (qv 2)) (gn 10 (hnd := fun _ => sc_law.nd)) tsn (QO.sh (omake (fun _ => k_Key) (fun i => hR i.1) (by decide) (qac (qv 10) qan))) (fun _ => blkOk_by (own := [("form", 10)]) (N := N_law) (sc := defScope s_law) (by decide +kernel)) (fun _ => sw_true rfl rfl rfl (by decide +kernel)) (hnd := fun _ => sc_law.nd))
 (bc (sset 4 (qadd qint (qcall (fun _ => d__law_pick) hR (by decide) (qac (qv 1) (qac qint qan)))) (hnd := fun _ => sc_law.nd))
 (bc (sset 5 (qadd qint (qcall (fun _ => d__law_pick) hR (by decide) (qac (qv 1) (qac qint qan)))) (hnd := fun _ => sc_law.nd))
 (bc (sset 6 (qcall (fun _ => d__law_menu_of) hR (by decide) (qac (qv 1) (qac (qv 4) (qac (qv 5) qan)))) (hnd := fun _ => sc_law.nd))
 (bc (sif (tNot' (ttru (qcall (fun _ => d__law_right) hR (by decide) (qac (qix (qv 3) qint) (qac (qix (qv 2) qint) (qac (qv 4) (qac (qv 5) (qac (qv 6) qan))))))))
 (b1 (sret qbl))
 bn)
 (bc (sset 7 (qadd qint (qcall (fun _ => d__law_pick) hR (by decide) (qac (qv 1) (qac qint qan)))) (hnd := fun _ => sc_law.nd))
 (bc (sset 8 (qadd qint (qcall (fun _ => d__law_pick) hR (by decide) (qac (qv 1) (qac qint qan)))) (hnd := fun _ => sc_law.nd))
 (bc (sset 9 (qcall (fun _ => d__law_menu_of) hR (by decide) (qac (qv 1) (qac (qv 7) (qac (qv 8) qan)))) (hnd := fun _ => sc_law.nd))
 (bc (sif (tNot' (ttru (qcall (fun _ => d__law_right) hR (by decide) (qac (qix (qv 3) qint) (qac (qix (qv 2) qint) (qac (qv 7) (qac (qv 8) (qac (qv 9) qan))))))))
 (b1 (sret qbl))
 bn)
 (b1 (sret (qcall (fun _ => d__law_right) hR (by decide) (qac (qix (qv 3) qint) (qac (qix (qv 2) qint) (qac (qv 7) (qac (qv 8) (qac (qv 9) qan)))))))))))))))))))

end
end K28
end L3

set_option Elab.async false
set_option linter.all false
set_option maxRecDepth 100000
set_option maxHeartbeats 0
namespace L3
namespace K28
open PySem PySem.Spec L2
theorem z__law_value : ∀ ds QR QO, ¬ sp__law_value' 0 ds QR QO := by
  rintro ds QR QO ⟨f, i, p, _, h, _⟩
  have := f.dep_pos
  omega
theorem z_value_of : ∀ ds QR QO, ¬ sp_value_of' 0 ds QR QO := z__law_value
theorem z_names_of : ∀ ds QR QO, ¬ sp_names_of' 0 ds QR QO := by
  rintro ds QR QO ⟨f, _, h, _⟩
  have := f.dep_pos
  omega
theorem z__law_form : ∀ ds QR QO, ¬ sp__law_form' 0 ds QR QO := by
  rintro ds QR QO ⟨bag, lv, _, _, ⟨h, _⟩, _⟩
  exact absurd h (by decide)
/-- what the top has made -/
structure Fa (K : PySem.W.Frag) (w : World) (mg : Str → Option Value) (A : Ad) : Prop where
  m_len : mg "len" = none
  m_str : mg "str" = none
  m_isinstance : mg "isinstance" = none
  g_LETTERS : ∃ u, mg "LETTERS" = some u ∧ RelV (.str "abcdefghijklmnopqrstuvwxyz") u
  m_all : mg "all" = none
  m_bool : mg "bool" = none
  m_int : mg "int" = none
  m_tuple : mg "tuple" = none
  g_COUNTS : ∃ u, mg "COUNTS" = some u ∧ RelV (.ref A.COUNTS) u
  kd_COUNTS : KD3 K w A.COUNTS tbl_COUNTS
  m_range : mg "range" = none
  g_MOST_LEVELS : ∃ u, mg "MOST_LEVELS" = some u ∧ RelV (.int 5) u
  g_MOST_ITEMS : ∃ u, mg "MOST_ITEMS" = some u ∧ RelV (.int 5) u
  c_Key : Cls K A.Key
  n_Key_form : NoAttr K A.Key "form"
  c_Known : Cls K A.Known
  n_Known_key : NoAttr K A.Known "key"
  n_Known_row : NoAttr K A.Known "row"
  n_Known_known_by : NoAttr K A.Known "known_by"
  n_Known_numbers : NoAttr K A.Known "numbers"
  aw : A.w = w
  c_Things : Cls K A.Things
  n_Things_row : NoAttr K A.Things "row"
  n_Things_numbers : NoAttr K A.Things "numbers"
  m_enumerate : mg "enumerate" = none
  m_abs : mg "abs" = none
  f_is_name : ∃ f, Df K "is_name" "is_name" s_is_name f ∧ mg "is_name" = some (.ref f)
  f_is_number : ∃ f, Df K "is_number" "is_number" s_is_number f ∧ mg "is_number" = some (.ref f)
  f_is_part : ∃ f, Df K "is_part" "is_part" s_is_part f ∧ mg "is_part" = some (.ref f)
  f_check_form : ∃ f, Df K "check_form" "check_form" s_check_form f ∧ mg "check_form" = some (.ref f)
  f_value_of : ∃ f, Df K "value_of" "value_of" s_value_of f ∧ mg "value_of" = some (.ref f)
  f_names_of : ∃ f, Df K "names_of" "names_of" s_names_of f ∧ mg "names_of" = some (.ref f)
  f_check_row : ∃ f, Df K "check_row" "check_row" s_check_row f ∧ mg "check_row" = some (.ref f)
  f_idents_of : ∃ f, Df K "idents_of" "idents_of" s_idents_of f ∧ mg "idents_of" = some (.ref f)
  f_Key___init__ : ∃ f, Df K "__init__" "Key.__init__" s_Key___init__ f ∧ Mk K A.Key f ∧ mg "Key" = some (.ref A.Key)
  f_Key_idents : ∃ f, Df K "idents" "Key.idents" s_Key_idents f ∧ Meth K A.Key "idents" f
  f_goes_wrong : ∃ f, Df K "goes_wrong" "goes_wrong" s_goes_wrong f ∧ mg "goes_wrong" = some (.ref f)
  f_first_going_wrong : ∃ f, Df K "first_going_wrong" "first_going_wrong" s_first_going_wrong f ∧ mg "first_going_wrong" = some (.ref f)
  f_faithful : ∃ f, Df K "faithful" "faithful" s_faithful f ∧ mg "faithful" = some (.ref f)
  f_rows_of : ∃ f, Df K "rows_of" "rows_of" s_rows_of f ∧ mg "rows_of" = some (.ref f)
  f_least_pair : ∃ f, Df K "least_pair" "least_pair" s_least_pair f ∧ mg "least_pair" = some (.ref f)
  f_Known___init__ : ∃ f, Df K "__init__" "Known.__init__" s_Known___init__ f ∧ Mk K A.Known f ∧ mg "Known" = some (.ref A.Known)
  f_Known___getitem__ : ∃ f, Df K "__getitem__" "Known.__getitem__" s_Known___getitem__ f ∧ PySem.W.findIn K (.ref A.Known) "__getitem__" = some (some (.ref f)) ∧ PySem.W.fnIn K f = true ∧ PySem.W.isFn K (.ref f) = true ∧ PySem.W.noSeq K A.Known = true
  f_Known___setitem__ : ∃ f, Df K "__setitem__" "Known.__setitem__" s_Known___setitem__ f ∧ PySem.W.findIn K (.ref A.Known) "__setitem__" = some (some (.ref f)) ∧ PySem.W.fnIn K f = true ∧ PySem.W.isFn K (.ref f) = true ∧ PySem.W.noSeq K A.Known = true
  f_Known_show : ∃ f, Df K "show" "Known.show" s_Known_show f ∧ Meth K A.Known "show" f
  f_Things___init__ : ∃ f, Df K "__init__" "Things.__init__" s_Things___init__ f ∧ Mk K A.Things f ∧ mg "Things" = some (.ref A.Things)
  f_Things___getitem__ : ∃ f, Df K "__getitem__" "Things.__getitem__" s_Things___getitem__ f ∧ PySem.W.findIn K (.ref A.Things) "__getitem__" = some (some (.ref f)) ∧ PySem.W.fnIn K f = true ∧ PySem.W.isFn K (.ref f) = true ∧ PySem.W.noSeq K A.Things = true
  f_Things___setitem__ : ∃ f, Df K "__setitem__" "Things.__setitem__" s_Things___setitem__ f ∧ PySem.W.findIn K (.ref A.Things) "__setitem__" = some (some (.ref f)) ∧ PySem.W.fnIn K f = true ∧ PySem.W.isFn K (.ref f) = true ∧ PySem.W.noSeq K A.Things = true
  f_Things_show : ∃ f, Df K "show" "Things.show" s_Things_show f ∧ Meth K A.Things "show" f
  f_is_parting : ∃ f, Df K "is_parting" "is_parting" s_is_parting f ∧ mg "is_parting" = some (.ref f)
  f_least_parting : ∃ f, Df K "least_parting" "least_parting" s_least_parting f ∧ mg "least_parting" = some (.ref f)
  f__law_mixed : ∃ f, Df K "_law_mixed" "_law_mixed" s__law_mixed f ∧ mg "_law_mixed" = some (.ref f)
  f__law_bag : ∃ f, Df K "_law_bag" "_law_bag" s__law_bag f ∧ mg "_law_bag" = some (.ref f)
  f__law_pick : ∃ f, Df K "_law_pick" "_law_pick" s__law_pick f ∧ mg "_law_pick" = some (.ref f)
  f__law_choice : ∃ f, Df K "_law_choice" "_law_choice" s__law_choice f ∧ mg "_law_choice" = some (.ref f)
  f__law_number : ∃ f, Df K "_law_number" "_law_number" s__law_number f ∧ mg "_law_number" = some (.ref f)
  f__law_form : ∃ f, Df K "_law_form" "_law_form" s__law_form f ∧ mg "_law_form" = some (.ref f)
  f__law_value : ∃ f, Df K "_law_value" "_law_value" s__law_value f ∧ mg "_law_value" = some (.ref f)
  f__law_idents : ∃ f, Df K "_law_idents" "_law_idents" s__law_idents f ∧ mg "_law_idents" = some (.ref f)
  f__law_any_key : ∃ f, Df K "_law_any_key" "_law_any_key" s__law_any_key f ∧ mg "_law_any_key" = some (.ref f)
  f__law_told_items : ∃ f, Df K "_law_told_items" "_law_told_items" s__law_told_items f ∧ mg "_law_told_items" = some (.ref f)
  f__law_all_rows : ∃ f, Df K "_law_all_rows" "_law_all_rows" s__law_all_rows f ∧ mg "_law_all_rows" = some (.ref f)
  f__law_unlike_rows : ∃ f, Df K "_law_unlike_rows" "_law_unlike_rows" s__law_unlike_rows f ∧ mg "_law_unlike_rows" = some (.ref f)
  f__law_first_of : ∃ f, Df K "_law_first_of" "_law_first_of" s__law_first_of f ∧ mg "_law_first_of" = some (.ref f)
  f__law_least : ∃ f, Df K "_law_least" "_law_least" s__law_least f ∧ mg "_law_least" = some (.ref f)
  f__law_plain : ∃ f, Df K "_law_plain" "_law_plain" s__law_plain f ∧ mg "_law_plain" = some (.ref f)
  f__law_right : ∃ f, Df K "_law_right" "_law_right" s__law_right f ∧ mg "_law_right" = some (.ref f)
  f__law_menu_of : ∃ f, Df K "_law_menu_of" "_law_menu_of" s__law_menu_of f ∧ mg "_law_menu_of" = some (.ref f)
  f_law : ∃ f, Df K "law" "law" s_law f ∧ mg "law" = some (.ref f)
theorem bd_is_name : BindN "is_name" "is_name" s_is_name ["thing"] := fun _ _ _ _ _ _ us hl => match us, hl with | [_], _ => rfl
theorem bd_is_number : BindN "is_number" "is_number" s_is_number ["thing", "low", "high"] := fun _ _ _ _ _ _ us hl => match us, hl with | [_, _, _], _ => rfl
theorem bd_is_part : BindN "is_part" "is_part" s_is_part ["part"] := fun _ _ _ _ _ _ us hl => match us, hl with | [_], _ => rfl
theorem bd_check_form : BindN "check_form" "check_form" s_check_form ["parts"] := fun _ _ _ _ _ _ us hl => match us, hl with | [_], _ => rfl
theorem bd_value_of : BindN "value_of" "value_of" s_value_of ["parts", "values"] := fun _ _ _ _ _ _ us hl => match us, hl with | [_, _], _ => rfl
theorem bd_names_of : BindN "names_of" "names_of" s_names_of ["parts"] := fun _ _ _ _ _ _ us hl => match us, hl with | [_], _ => rfl
theorem bd_check_row : BindN "check_row" "check_row" s_check_row ["row"] := fun _ _ _ _ _ _ us hl => match us, hl with | [_], _ => rfl
theorem bd_idents_of : BindN "idents_of" "idents_of" s_idents_of ["parts", "row"] := fun _ _ _ _ _ _ us hl => match us, hl with | [_, _], _ => rfl
theorem bd_Key___init__ : BindN "__init__" "Key.__init__" s_Key___init__ ["self", "form"] := fun _ _ _ _ _ _ us hl => match us, hl with | [_, _], _ => rfl
theorem bd_Key_idents : BindN "idents" "Key.idents" s_Key_idents ["self", "row"] := fun _ _ _ _ _ _ us hl => match us, hl with | [_, _], _ => rfl
theorem bd_goes_wrong : BindN "goes_wrong" "goes_wrong" s_goes_wrong ["old", "before", "new", "behind"] := fun _ _ _ _ _ _ us hl => match us, hl with | [_, _, _, _], _ => rfl
theorem bd_first_going_wrong : BindN "first_going_wrong" "first_going_wrong" s_first_going_wrong ["olds", "news"] := fun _ _ _ _ _ _ us hl => match us, hl with | [_, _], _ => rfl
theorem bd_faithful : BindN "faithful" "faithful" s_faithful ["key", "menu"] := fun _ _ _ _ _ _ us hl => match us, hl with | [_, _], _ => rfl
theorem bd_rows_of : BindN "rows_of" "rows_of" s_rows_of ["size", "length"] := fun _ _ _ _ _ _ us hl => match us, hl with | [_, _], _ => rfl
theorem bd_least_pair : BindN "least_pair" "least_pair" s_least_pair ["key", "size", "places"] := fun _ _ _ _ _ _ us hl => match us, hl with | [_, _, _], _ => rfl
theorem bd_Known___init__ : BindN "__init__" "Known.__init__" s_Known___init__ ["self", "key", "row"] := fun _ _ _ _ _ _ us hl => match us, hl with | [_, _, _], _ => rfl
theorem bd_Known___getitem__ : BindN "__getitem__" "Known.__getitem__" s_Known___getitem__ ["self", "item"] := fun _ _ _ _ _ _ us hl => match us, hl with | [_, _], _ => rfl
theorem bd_Known___setitem__ : BindN "__setitem__" "Known.__setitem__" s_Known___setitem__ ["self", "item", "number"] := fun _ _ _ _ _ _ us hl => match us, hl with | [_, _, _], _ => rfl
theorem bd_Known_show : BindN "show" "Known.show" s_Known_show ["self", "row"] := fun _ _ _ _ _ _ us hl => match us, hl with | [_, _], _ => rfl
theorem bd_Things___init__ : BindN "__init__" "Things.__init__" s_Things___init__ ["self", "row"] := fun _ _ _ _ _ _ us hl => match us, hl with | [_, _], _ => rfl
theorem bd_Things___getitem__ : BindN "__getitem__" "Things.__getitem__" s_Things___getitem__ ["self", "item"] := fun _ _ _ _ _ _ us hl => match us, hl with | [_, _], _ => rfl
theorem bd_Things___setitem__ : BindN "__setitem__" "Things.__setitem__" s_Things___setitem__ ["self", "item", "number"] := fun _ _ _ _ _ _ us hl => match us, hl with | [_, _, _], _ => rfl
theorem bd_Things_show : BindN "show" "Things.show" s_Things_show ["self", "row"] := fun _ _ _ _ _ _ us hl => match us, hl with | [_, _], _ => rfl
theorem bd_is_parting : BindN "is_parting" "is_parting" s_is_parting ["key", "old", "item", "new"] := fun _ _ _ _ _ _ us hl => match us, hl with | [_, _, _, _], _ => rfl
theorem bd_least_parting : BindN "least_parting" "least_parting" s_least_parting ["key", "menu"] := fun _ _ _ _ _ _ us hl => match us, hl with | [_, _], _ => rfl
theorem bd__law_mixed : BindN "_law_mixed" "_law_mixed" s__law_mixed ["number", "turn"] := fun _ _ _ _ _ _ us hl => match us, hl with | [_, _], _ => rfl
theorem bd__law_bag : BindN "_law_bag" "_law_bag" s__law_bag ["script"] := fun _ _ _ _ _ _ us hl => match us, hl with | [_], _ => rfl
theorem bd__law_pick : BindN "_law_pick" "_law_pick" s__law_pick ["bag", "many"] := fun _ _ _ _ _ _ us hl => match us, hl with | [_, _], _ => rfl
theorem bd__law_choice : BindN "_law_choice" "_law_choice" s__law_choice ["bag", "things"] := fun _ _ _ _ _ _ us hl => match us, hl with | [_, _], _ => rfl
theorem bd__law_number : BindN "_law_number" "_law_number" s__law_number ["thing"] := fun _ _ _ _ _ _ us hl => match us, hl with | [_], _ => rfl
theorem bd__law_form : BindN "_law_form" "_law_form" s__law_form ["bag", "readable", "levels"] := fun _ _ _ _ _ _ us hl => match us, hl with | [_, _, _], _ => rfl
theorem bd__law_value : BindN "_law_value" "_law_value" s__law_value ["form", "worths"] := fun _ _ _ _ _ _ us hl => match us, hl with | [_, _], _ => rfl
theorem bd__law_idents : BindN "_law_idents" "_law_idents" s__law_idents ["key", "row"] := fun _ _ _ _ _ _ us hl => match us, hl with | [_, _], _ => rfl
theorem bd__law_any_key : BindN "_law_any_key" "_law_any_key" s__law_any_key ["bag"] := fun _ _ _ _ _ _ us hl => match us, hl with | [_], _ => rfl
theorem bd__law_told_items : BindN "_law_told_items" "_law_told_items" s__law_told_items ["told", "due"] := fun _ _ _ _ _ _ us hl => match us, hl with | [_, _], _ => rfl
theorem bd__law_all_rows : BindN "_law_all_rows" "_law_all_rows" s__law_all_rows ["size", "places"] := fun _ _ _ _ _ _ us hl => match us, hl with | [_, _], _ => rfl
theorem bd__law_unlike_rows : BindN "_law_unlike_rows" "_law_unlike_rows" s__law_unlike_rows ["old", "before", "new", "behind"] := fun _ _ _ _ _ _ us hl => match us, hl with | [_, _, _, _], _ => rfl
theorem bd__law_first_of : BindN "_law_first_of" "_law_first_of" s__law_first_of ["form", "olds", "news"] := fun _ _ _ _ _ _ us hl => match us, hl with | [_, _, _], _ => rfl
theorem bd__law_least : BindN "_law_least" "_law_least" s__law_least ["form", "size", "places"] := fun _ _ _ _ _ _ us hl => match us, hl with | [_, _, _], _ => rfl
theorem bd__law_plain : BindN "_law_plain" "_law_plain" s__law_plain ["form", "size", "places"] := fun _ _ _ _ _ _ us hl => match us, hl with | [_, _, _], _ => rfl
theorem bd__law_right : BindN "_law_right" "_law_right" s__law_right ["key", "form", "size", "places", "menu"] := fun _ _ _ _ _ _ us hl => match us, hl with | [_, _, _, _, _], _ => rfl
theorem bd__law_menu_of : BindN "_law_menu_of" "_law_menu_of" s__law_menu_of ["bag", "size", "places"] := fun _ _ _ _ _ _ us hl => match us, hl with | [_, _, _], _ => rfl
theorem bd_law : BindN "law" "law" s_law ["script"] := fun _ _ _ _ _ _ us hl => match us, hl with | [_], _ => rfl
section
variable {P : Program} {w : World} {K : PySem.W.Frag} {mg : Str → Option Value} {base : Heap} {A : Ad}
theorem ok_is_name (T : Fa K w mg A) : C3 P w K mg base 1 "is_name" [.shr] (sp_is_name A) := ck T.f_is_name bd_is_name sc_is_name rfl rfl (fun f => w_is_name T.m_len T.m_str T.m_isinstance T.g_LETTERS T.m_all) (t_is_name A)
theorem ok_is_number (T : Fa K w mg A) : C3 P w K mg base 1 "is_number" [.shr, .shr, .shr] (sp_is_number A) := ck T.f_is_number bd_is_number sc_is_number rfl rfl (fun f => w_is_number T.m_bool T.m_isinstance T.m_int) (t_is_number A)
theorem ok_is_part (T : Fa K w mg A) : C3 P w K mg base 2 "is_part" [.shr] (sp_is_part A) := ck T.f_is_part bd_is_part sc_is_part rfl rfl (fun f => w_is_part T.m_len T.m_tuple T.m_isinstance T.g_COUNTS T.kd_COUNTS T.m_str (ok_is_number T) (ok_is_name T)) (t_is_part A)
theorem ok_check_form (T : Fa K w mg A) : C3 P w K mg base 3 "check_form" [.shr] (sp_check_form A) := ck T.f_check_form bd_check_form sc_check_form rfl rfl (fun f => w_check_form (ok_is_part T) T.m_len T.m_range T.g_MOST_LEVELS) (t_check_form A)
theorem ok_value_of_rec (T : Fa K w mg A) : ∀ n, C3 P w K mg base (1 + n) "value_of" [.shr, .brw] (sp_value_of' n)
  | 0 => ck0 T.f_value_of bd_value_of sc_value_of (z_value_of)
  | n + 1 => have me := ok_value_of_rec T n
    ck T.f_value_of bd_value_of sc_value_of rfl rfl (fun f => w_value_of me) (t_value_of A n)
theorem ok_value_of (T : Fa K w mg A) : C3 P w K mg base 8 "value_of" [.shr, .brw] (sp_value_of A) := ok_value_of_rec T 7
theorem ok_names_of_rec (T : Fa K w mg A) : ∀ n, C3 P w K mg base (1 + n) "names_of" [.shr] (sp_names_of' n)
  | 0 => ck0 T.f_names_of bd_names_of sc_names_of (z_names_of)
  | n + 1 => have me := ok_names_of_rec T n
    ck T.f_names_of bd_names_of sc_names_of rfl rfl (fun f => w_names_of me T.m_tuple) (t_names_of A n)
theorem ok_names_of (T : Fa K w mg A) : C3 P w K mg base 8 "names_of" [.shr] (sp_names_of A) := ok_names_of_rec T 7
theorem ok_check_row (T : Fa K w mg A) : C3 P w K mg base 1 "check_row" [.shr] (sp_check_row A) := ck T.f_check_row bd_check_row sc_check_row rfl rfl (fun f => w_check_row T.m_len T.g_MOST_ITEMS T.m_tuple T.m_isinstance T.m_bool T.m_int) (t_check_row A)
theorem ok_idents_of (T : Fa K w mg A) : C3 P w K mg base 9 "idents_of" [.shr, .shr] (sp_idents_of A) := ck T.f_idents_of bd_idents_of sc_idents_of rfl rfl (fun f => w_idents_of T.m_len T.m_range (ok_value_of T) T.m_tuple) (t_idents_of A)
theorem ok_Key___init__ (T : Fa K w mg A) : Mk3 P w K mg base 9 "Key" A.Key [.shr] (sp_Key___init__ A) := mk3 T.f_Key___init__ bd_Key___init__ sc_Key___init__ rfl rfl (fun f => w_Key___init__ (ok_check_form T) (ok_names_of T) T.c_Key T.n_Key_form) (t_Key___init__ A)
theorem ok_Key_idents (T : Fa K w mg A) : Me3 P w K mg base 10 A.Key "idents" [.shr, .shr] (sp_Key_idents A) := me3 T.c_Key T.f_Key_idents bd_Key_idents sc_Key_idents rfl rfl (fun f => w_Key_idents (ok_check_row T) T.c_Key T.n_Key_form (ok_idents_of T)) (t_Key_idents A)
theorem ok_goes_wrong (T : Fa K w mg A) : C3 P w K mg base 1 "goes_wrong" [.shr, .shr, .shr, .shr] (sp_goes_wrong A) := ck T.f_goes_wrong bd_goes_wrong sc_goes_wrong rfl rfl (fun f => w_goes_wrong T.m_len T.m_range) (t_goes_wrong A)
theorem ok_first_going_wrong (T : Fa K w mg A) : C3 P w K mg base 2 "first_going_wrong" [.brw, .brw] (sp_first_going_wrong A) := ck T.f_first_going_wrong bd_first_going_wrong sc_first_going_wrong rfl rfl (fun f => w_first_going_wrong (ok_goes_wrong T)) (t_first_going_wrong A)
theorem ok_faithful (T : Fa K w mg A) : C3 P w K mg base 11 "faithful" [.shr, .shr] (sp_faithful A) := ck T.f_faithful bd_faithful sc_faithful rfl rfl (fun f => w_faithful (ok_Key_idents T) (ok_first_going_wrong T)) (t_faithful A)
theorem ok_rows_of (T : Fa K w mg A) : C3 P w K mg base 1 "rows_of" [.shr, .shr] (sp_rows_of A) := ck T.f_rows_of bd_rows_of sc_rows_of rfl rfl (fun f => w_rows_of T.m_range) (t_rows_of A)
theorem ok_least_pair (T : Fa K w mg A) : C3 P w K mg base 11 "least_pair" [.shr, .shr, .shr] (sp_least_pair A) := ck T.f_least_pair bd_least_pair sc_least_pair rfl rfl (fun f => w_least_pair T.m_range (ok_rows_of T) (ok_Key_idents T) (ok_first_going_wrong T)) (t_least_pair A)
theorem ok_Known___init__ (T : Fa K w mg A) : MkB3 P w K mg base 11 "Known" A.Known [.shr, .shr] (sp_Known___init__ A) := mkb3 T.f_Known___init__ bd_Known___init__ sc_Known___init__ rfl rfl (fun f => w_Known___init__ T.c_Known T.n_Known_key T.n_Known_row T.n_Known_known_by (ok_Key_idents T) T.n_Known_numbers T.aw) (t_Known___init__ A)
theorem ok_Known___getitem__ (T : Fa K w mg A) : Sm3 P w K mg base 1 A.Known "__getitem__" [.brw, .shr] (sp_Known___getitem__ A) := sm3 T.f_Known___getitem__ bd_Known___getitem__ sc_Known___getitem__ rfl rfl (fun f => w_Known___getitem__ T.c_Known T.n_Known_row T.m_bool T.m_isinstance T.n_Known_numbers T.n_Known_known_by T.aw) (t_Known___getitem__ A)
theorem ok_Known___setitem__ (T : Fa K w mg A) : Sm3 P w K mg base 1 A.Known "__setitem__" [.pab, .shr, .shr] (sp_Known___setitem__ A) := sm3 T.f_Known___setitem__ bd_Known___setitem__ sc_Known___setitem__ rfl rfl (fun f => w_Known___setitem__ T.c_Known T.n_Known_row T.m_bool T.m_isinstance T.n_Known_numbers T.n_Known_known_by T.aw) (t_Known___setitem__ A)
theorem ok_Known_show (T : Fa K w mg A) : Me3 P w K mg base 11 A.Known "show" [.pab, .shr] (sp_Known_show A) := me3 T.c_Known T.f_Known_show bd_Known_show sc_Known_show rfl rfl (fun f => w_Known_show T.c_Known T.n_Known_key (ok_Key_idents T) T.aw T.n_Known_numbers T.n_Known_row T.n_Known_known_by) (t_Known_show A)
theorem ok_Things___init__ (T : Fa K w mg A) : MkB3 P w K mg base 2 "Things" A.Things [.shr] (sp_Things___init__ A) := mkb3 T.f_Things___init__ bd_Things___init__ sc_Things___init__ rfl rfl (fun f => w_Things___init__ (ok_check_row T) T.c_Things T.n_Things_row T.n_Things_numbers) (t_Things___init__ A)
theorem ok_Things___getitem__ (T : Fa K w mg A) : Sm3 P w K mg base 1 A.Things "__getitem__" [.brw, .shr] (sp_Things___getitem__ A) := sm3 T.f_Things___getitem__ bd_Things___getitem__ sc_Things___getitem__ rfl rfl (fun f => w_Things___getitem__ T.c_Things T.n_Things_row T.m_bool T.m_isinstance T.n_Things_numbers) (t_Things___getitem__ A)
theorem ok_Things___setitem__ (T : Fa K w mg A) : Sm3 P w K mg base 1 A.Things "__setitem__" [.pab, .shr, .shr] (sp_Things___setitem__ A) := sm3 T.f_Things___setitem__ bd_Things___setitem__ sc_Things___setitem__ rfl rfl (fun f => w_Things___setitem__ T.c_Things T.n_Things_row T.m_bool T.m_isinstance T.n_Things_numbers) (t_Things___setitem__ A)
theorem ok_Things_show (T : Fa K w mg A) : Me3 P w K mg base 2 A.Things "show" [.pab, .shr] (sp_Things_show A) := me3 T.c_Things T.f_Things_show bd_Things_show sc_Things_show rfl rfl (fun f => w_Things_show (ok_check_row T) T.c_Things T.n_Things_numbers T.n_Things_row) (t_Things_show A)
theorem ok_is_parting (T : Fa K w mg A) : C3 P w K mg base 13 "is_parting" [.shr, .shr, .shr, .shr] (sp_is_parting A) := ck T.f_is_parting bd_is_parting sc_is_parting rfl rfl (fun f => w_is_parting (ok_Known___init__ T) (ok_Things___init__ T) (ok_Known___setitem__ T) (ok_Things___setitem__ T) (ok_Known_show T) (ok_Things_show T) (ok_Known___getitem__ T) (ok_Things___getitem__ T)) (t_is_parting A)
theorem ok_least_parting (T : Fa K w mg A) : C3 P w K mg base 14 "least_parting" [.shr, .shr] (sp_least_parting A) := ck T.f_least_parting bd_least_parting sc_least_parting rfl rfl (fun f => w_least_parting (ok_is_parting T)) (t_least_parting A)
theorem ok__law_mixed (T : Fa K w mg A) : C3 P w K mg base 1 "_law_mixed" [.shr, .shr] (sp__law_mixed A) := ck T.f__law_mixed bd__law_mixed sc__law_mixed rfl rfl (fun f => w__law_mixed T.m_int) (t__law_mixed A)
theorem ok__law_bag (T : Fa K w mg A) : C3 P w K mg base 1 "_law_bag" [.shr] (sp__law_bag A) := ck T.f__law_bag bd__law_bag sc__law_bag rfl rfl (fun f => w__law_bag T.m_int T.m_len T.m_enumerate T.m_abs) (t__law_bag A)
theorem ok__law_pick (T : Fa K w mg A) : C3 P w K mg base 2 "_law_pick" [.par, .shr] (sp__law_pick A) := ck T.f__law_pick bd__law_pick sc__law_pick rfl rfl (fun f => w__law_pick T.m_len T.m_abs (ok__law_mixed T) T.m_int) (t__law_pick A)
theorem ok__law_choice (T : Fa K w mg A) : C3 P w K mg base 3 "_law_choice" [.par, .brw] (sp__law_choice A) := ck T.f__law_choice bd__law_choice sc__law_choice rfl rfl (fun f => w__law_choice T.m_len (ok__law_pick T)) (t__law_choice A)
theorem ok__law_number (T : Fa K w mg A) : C3 P w K mg base 1 "_law_number" [.shr] (sp__law_number A) := ck T.f__law_number bd__law_number sc__law_number rfl rfl (fun f => w__law_number T.m_bool T.m_isinstance T.m_int) (t__law_number A)
theorem ok__law_form_rec (T : Fa K w mg A) : ∀ n, C3 P w K mg base (4 + n) "_law_form" [.par, .shr, .shr] (sp__law_form' n)
  | 0 => ck0 T.f__law_form bd__law_form sc__law_form (z__law_form)
  | n + 1 => have me := ok__law_form_rec T n
    ck T.f__law_form bd__law_form sc__law_form rfl rfl (fun f => w__law_form (ok__law_pick T) (ok__law_choice T) me (Nat.le_trans (by decide) (Nat.le_add_right 4 n))) (t__law_form A n)
theorem ok__law_form (T : Fa K w mg A) : C3 P w K mg base 11 "_law_form" [.par, .shr, .shr] (sp__law_form A) := ok__law_form_rec T 7
theorem ok__law_value_rec (T : Fa K w mg A) : ∀ n, C3 P w K mg base (1 + n) "_law_value" [.shr, .brw] (sp__law_value' n)
  | 0 => ck0 T.f__law_value bd__law_value sc__law_value (z__law_value)
  | n + 1 => have me := ok__law_value_rec T n
    ck T.f__law_value bd__law_value sc__law_value rfl rfl (fun f => w__law_value me T.m_int) (t__law_value A n)
theorem ok__law_value (T : Fa K w mg A) : C3 P w K mg base 8 "_law_value" [.shr, .brw] (sp__law_value A) := ok__law_value_rec T 7
theorem ok__law_idents (T : Fa K w mg A) : C3 P w K mg base 9 "_law_idents" [.shr, .shr] (sp__law_idents A) := ck T.f__law_idents bd__law_idents sc__law_idents rfl rfl (fun f => w__law_idents T.m_enumerate (ok__law_value T) T.m_len) (t__law_idents A)
theorem ok__law_any_key (T : Fa K w mg A) : C3 P w K mg base 12 "_law_any_key" [.par] (sp__law_any_key A) := ck T.f__law_any_key bd__law_any_key sc__law_any_key rfl rfl (fun f => w__law_any_key (ok__law_pick T) (ok__law_choice T) (ok__law_form T)) (t__law_any_key A)
theorem ok__law_told_items (T : Fa K w mg A) : C3 P w K mg base 2 "_law_told_items" [.shr, .shr] (sp__law_told_items A) := ck T.f__law_told_items bd__law_told_items sc__law_told_items rfl rfl (fun f => w__law_told_items T.m_len T.m_tuple T.m_isinstance T.m_range (ok__law_number T)) (t__law_told_items A)
theorem ok__law_all_rows (T : Fa K w mg A) : C3 P w K mg base 1 "_law_all_rows" [.shr, .shr] (sp__law_all_rows A) := ck T.f__law_all_rows bd__law_all_rows sc__law_all_rows rfl rfl (fun f => w__law_all_rows T.m_range) (t__law_all_rows A)
theorem ok__law_unlike_rows (T : Fa K w mg A) : C3 P w K mg base 1 "_law_unlike_rows" [.shr, .shr, .shr, .shr] (sp__law_unlike_rows A) := ck T.f__law_unlike_rows bd__law_unlike_rows sc__law_unlike_rows rfl rfl (fun f => w__law_unlike_rows T.m_len T.m_range) (t__law_unlike_rows A)
theorem ok__law_first_of (T : Fa K w mg A) : C3 P w K mg base 10 "_law_first_of" [.shr, .shr, .shr] (sp__law_first_of A) := ck T.f__law_first_of bd__law_first_of sc__law_first_of rfl rfl (fun f => w__law_first_of (ok__law_idents T) T.m_len T.m_range (ok__law_unlike_rows T)) (t__law_first_of A)
theorem ok__law_least (T : Fa K w mg A) : C3 P w K mg base 11 "_law_least" [.shr, .shr, .shr] (sp__law_least A) := ck T.f__law_least bd__law_least sc__law_least rfl rfl (fun f => w__law_least (ok__law_all_rows T) T.m_range (ok__law_first_of T)) (t__law_least A)
theorem ok__law_plain (T : Fa K w mg A) : C3 P w K mg base 9 "_law_plain" [.shr, .shr, .shr] (sp__law_plain A) := ck T.f__law_plain bd__law_plain sc__law_plain rfl rfl (fun f => w__law_plain T.m_range (ok__law_value T)) (t__law_plain A)
theorem ok__law_right (T : Fa K w mg A) : C3 P w K mg base 15 "_law_right" [.shr, .shr, .shr, .shr, .shr] (sp__law_right A) := ck T.f__law_right bd__law_right sc__law_right rfl rfl (fun f => w__law_right (ok__law_least T) (ok_least_pair T) (ok__law_plain T) (ok_least_parting T) (ok_faithful T) T.m_len T.m_tuple T.m_isinstance (ok__law_told_items T)) (t__law_right A)
theorem ok__law_menu_of (T : Fa K w mg A) : C3 P w K mg base 4 "_law_menu_of" [.par, .shr, .shr] (sp__law_menu_of A) := ck T.f__law_menu_of bd__law_menu_of sc__law_menu_of rfl rfl (fun f => w__law_menu_of (ok__law_all_rows T) (ok__law_pick T) T.m_range (ok__law_choice T) T.m_tuple) (t__law_menu_of A)
theorem law_F (T : Fa K w mg A) {fa : Addr} (h : mg "law" = some (.ref fa)) : ∃ fd : FuncData, (∀ (s : Shared) (u : Value), BindsTo s fd ⟨[u], []⟩ [("script", u)]) ∧ ∀ base : Heap, FnOk P w K mg base CX0 (15 + 1) fa fd ["script"] (Lift K [.shr] (sp_law A)) := by
  obtain ⟨f, F, hm⟩ := T.f_law
  cases hm.symm.trans h
  obtain ⟨fd, F⟩ := F.ex
  exact ⟨fd, fun s u => F.bindsA bd_law s [u] rfl, fun base => fn3 F sc_law rfl rfl (w_law (ok__law_bag T) (ok__law_any_key T) (ok_Key___init__ T) (ok__law_pick T) (ok__law_menu_of T) (ok__law_right T)) (t_law A)⟩
end
theorem walk {l : PySem.W.OpenLaw} {q : Program} {loose : List Str} {XP : (Str → Option Value) → Heap → Prop} {YP : World → Heap → Prop} {d : DefRec} {K : Params → PySem.W.Frag} (hn : l.most = some 63) (hdf : d.params.defaults = []) (hd : d.name = "law")
    (hY : ∀ (w : World) (h : Heap), YP w h → (K w.params).In h)
    (F : ∀ (w : World) (mg : Str → Option Value) (h : Heap), (K w.params).In h → h.Ns mainGlobals mg → ∃ A, Fa (K w.params) w mg A) : PySem.W.WalkO q loose XP YP l.row.toRowW d [] (fun f vs => PySem.call f vs) :=
  L2.walk_of (n := 63) (k := 16) (x := "script") (CX := fun _ => CX0) (sp := fun w => Lift (K w.params) [.shr] (sp_law ⟨0, 0, 0, 0, w⟩)) hn (by decide) hdf ⟨rfl, by decide, by decide⟩ hY
    (fun w mg fa h X G e => by
      obtain ⟨A, T⟩ := F w mg h X G
      obtain ⟨fd, h1, h2⟩ := law_F T (P := l.prog) (hd ▸ e)
      exact ⟨fd, h1, fun base _ _ => h2 base⟩)
    (fun w H a ns hl hO hS => hsp3 (q := 63) (fun ns hl QO _ => ⟨ns, rfl, hl, rfl⟩) H a ns hl hO hS) fun _ _ _ _ _ z => z
structure FaX (K : PySem.W.Frag) (w : World) (mg : Str → Option Value) (Key COUNTS Known Things : Addr) : Prop where
  m_len : mg "len" = none
  m_str : mg "str" = none
  m_isinstance : mg "isinstance" = none
  g_LETTERS : ∃ u, mg "LETTERS" = some u ∧ RelV (.str "abcdefghijklmnopqrstuvwxyz") u
  m_all : mg "all" = none
  m_bool : mg "bool" = none
  m_int : mg "int" = none
  m_tuple : mg "tuple" = none
  g_COUNTS : ∃ u, mg "COUNTS" = some u ∧ RelV (.ref COUNTS) u
  kd_COUNTS : KD3 K w COUNTS tbl_COUNTS
  m_range : mg "range" = none
  g_MOST_LEVELS : ∃ u, mg "MOST_LEVELS" = some u ∧ RelV (.int 5) u
  g_MOST_ITEMS : ∃ u, mg "MOST_ITEMS" = some u ∧ RelV (.int 5) u
  c_Key : Cls K Key
  n_Key_form : NoAttr K Key "form"
  c_Known : Cls K Known
  n_Known_key : NoAttr K Known "key"
  n_Known_row : NoAttr K Known "row"
  n_Known_known_by : NoAttr K Known "known_by"
  n_Known_numbers : NoAttr K Known "numbers"
  aw : w = w
  c_Things : Cls K Things
  n_Things_row : NoAttr K Things "row"
  n_Things_numbers : NoAttr K Things "numbers"
  m_enumerate : mg "enumerate" = none
  m_abs : mg "abs" = none
  f_is_name : ∃ f, Df K "is_name" "is_name" s_is_name f ∧ mg "is_name" = some (.ref f)
  f_is_number : ∃ f, Df K "is_number" "is_number" s_is_number f ∧ mg "is_number" = some (.ref f)
  f_is_part : ∃ f, Df K "is_part" "is_part" s_is_part f ∧ mg "is_part" = some (.ref f)
  f_check_form : ∃ f, Df K "check_form" "check_form" s_check_form f ∧ mg "check_form" = some (.ref f)
  f_value_of : ∃ f, Df K "value_of" "value_of" s_value_of f ∧ mg "value_of" = some (.ref f)
  f_names_of : ∃ f, Df K "names_of" "names_of" s_names_of f ∧ mg "names_of" = some (.ref f)
  f_check_row : ∃ f, Df K "check_row" "check_row" s_check_row f ∧ mg "check_row" = some (.ref f)
  f_idents_of : ∃ f, Df K "idents_of" "idents_of" s_idents_of f ∧ mg "idents_of" = some (.ref f)
  f_Key___init__ : ∃ f, Df K "__init__" "Key.__init__" s_Key___init__ f ∧ Mk K Key f ∧ mg "Key" = some (.ref Key)
  f_Key_idents : ∃ f, Df K "idents" "Key.idents" s_Key_idents f ∧ Meth K Key "idents" f
  f_goes_wrong : ∃ f, Df K "goes_wrong" "goes_wrong" s_goes_wrong f ∧ mg "goes_wrong" = some (.ref f)
  f_first_going_wrong : ∃ f, Df K "first_going_wrong" "first_going_wrong" s_first_going_wrong f ∧ mg "first_going_wrong" = some (.ref f)
  f_faithful : ∃ f, Df K "faithful" "faithful" s_faithful f ∧ mg "faithful" = some (.ref f)
  f_rows_of : ∃ f, Df K "rows_of" "rows_of" s_rows_of f ∧ mg "rows_of" = some (.ref f)
  f_least_pair : ∃ f, Df K "least_pair" "least_pair" s_least_pair f ∧ mg "least_pair" = some (.ref f)
  f_Known___init__ : ∃ f, Df K "__init__" "Known.__init__" s_Known___init__ f ∧ Mk K Known f ∧ mg "Known" = some (.ref Known)
  f_Known___getitem__ : ∃ f, Df K "__getitem__" "Known.__getitem__" s_Known___getitem__ f ∧ PySem.W.findIn K (.ref Known) "__getitem__" = some (some (.ref f)) ∧ PySem.W.fnIn K f = true ∧ PySem.W.isFn K (.ref f) = true ∧ PySem.W.noSeq K Known = true
  f_Known___setitem__ : ∃ f, Df K "__setitem__" "Known.__setitem__" s_Known___setitem__ f ∧ PySem.W.findIn K (.ref Known) "__setitem__" = some (some (.ref f)) ∧ PySem.W.fnIn K f = true ∧ PySem.W.isFn K (.ref f) = true ∧ PySem.W.noSeq K Known = true
  f_Known_show : ∃ f, Df K "show" "Known.show" s_Known_show f ∧ Meth K Known "show" f
  f_Things___init__ : ∃ f, Df K "__init__" "Things.__init__" s_Things___init__ f ∧ Mk K Things f ∧ mg "Things" = some (.ref Things)
  f_Things___getitem__ : ∃ f, Df K "__getitem__" "Things.__getitem__" s_Things___getitem__ f ∧ PySem.W.findIn K (.ref Things) "__getitem__" = some (some (.ref f)) ∧ PySem.W.fnIn K f = true ∧ PySem.W.isFn K (.ref f) = true ∧ PySem.W.noSeq K Things = true
  f_Things___setitem__ : ∃ f, Df K "__setitem__" "Things.__setitem__" s_Things___setitem__ f ∧ PySem.W.findIn K (.ref Things) "__setitem__" = some (some (.ref f)) ∧ PySem.W.fnIn K f = true ∧ PySem.W.isFn K (.ref f) = true ∧ PySem.W.noSeq K Things = true
  f_Things_show : ∃ f, Df K "show" "Things.show" s_Things_show f ∧ Meth K Things "show" f
  f_is_parting : ∃ f, Df K "is_parting" "is_parting" s_is_parting f ∧ mg "is_parting" = some (.ref f)
  f_least_parting : ∃ f, Df K "least_parting" "least_parting" s_least_parting f ∧ mg "least_parting" = some (.ref f)
  f__law_mixed : ∃ f, Df K "_law_mixed" "_law_mixed" s__law_mixed f ∧ mg "_law_mixed" = some (.ref f)
  f__law_bag : ∃ f, Df K "_law_bag" "_law_bag" s__law_bag f ∧ mg "_law_bag" = some (.ref f)
  f__law_pick : ∃ f, Df K "_law_pick" "_law_pick" s__law_pick f ∧ mg "_law_pick" = some (.ref f)
  f__law_choice : ∃ f, Df K "_law_choice" "_law_choice" s__law_choice f ∧ mg "_law_choice" = some (.ref f)
  f__law_number : ∃ f, Df K "_law_number" "_law_number" s__law_number f ∧ mg "_law_number" = some (.ref f)
  f__law_form : ∃ f, Df K "_law_form" "_law_form" s__law_form f ∧ mg "_law_form" = some (.ref f)
  f__law_value : ∃ f, Df K "_law_value" "_law_value" s__law_value f ∧ mg "_law_value" = some (.ref f)
  f__law_idents : ∃ f, Df K "_law_idents" "_law_idents" s__law_idents f ∧ mg "_law_idents" = some (.ref f)
  f__law_any_key : ∃ f, Df K "_law_any_key" "_law_any_key" s__law_any_key f ∧ mg "_law_any_key" = some (.ref f)
  f__law_told_items : ∃ f, Df K "_law_told_items" "_law_told_items" s__law_told_items f ∧ mg "_law_told_items" = some (.ref f)
  f__law_all_rows : ∃ f, Df K "_law_all_rows" "_law_all_rows" s__law_all_rows f ∧ mg "_law_all_rows" = some (.ref f)
  f__law_unlike_rows : ∃ f, Df K "_law_unlike_rows" "_law_unlike_rows" s__law_unlike_rows f ∧ mg "_law_unlike_rows" = some (.ref f)
  f__law_first_of : ∃ f, Df K "_law_first_of" "_law_first_of" s__law_first_of f ∧ mg "_law_first_of" = some (.ref f)
  f__law_least : ∃ f, Df K "_law_least" "_law_least" s__law_least f ∧ mg "_law_least" = some (.ref f)
  f__law_plain : ∃ f, Df K "_law_plain" "_law_plain" s__law_plain f ∧ mg "_law_plain" = some (.ref f)
  f__law_right : ∃ f, Df K "_law_right" "_law_right" s__law_right f ∧ mg "_law_right" = some (.ref f)
  f__law_menu_of : ∃ f, Df K "_law_menu_of" "_law_menu_of" s__law_menu_of f ∧ mg "_law_menu_of" = some (.ref f)
  f_law : ∃ f, Df K "law" "law" s_law f ∧ mg "law" = some (.ref f)
theorem FaX.fa {K : PySem.W.Frag} {w : World} {mg : Str → Option Value} {Key COUNTS Known Things : Addr} (t : FaX K w mg Key COUNTS Known Things) : Fa K w mg ⟨Key, COUNTS, Known, Things, w⟩ := ⟨t.m_len, t.m_str, t.m_isinstance, t.g_LETTERS, t.m_all, t.m_bool, t.m_int, t.m_tuple, t.g_COUNTS, t.kd_COUNTS, t.m_range, t.g_MOST_LEVELS, t.g_MOST_ITEMS, t.c_Key, t.n_Key_form, t.c_Known, t.n_Known_key, t.n_Known_row, t.n_Known_known_by, t.n_Known_numbers, t.aw, t.c_Things, t.n_Things_row, t.n_Things_numbers, t.m_enumerate, t.m_abs, t.f_is_name, t.f_is_number, t.f_is_part, t.f_check_form, t.f_value_of, t.f_names_of, t.f_check_row, t.f_idents_of, t.f_Key___init__, t.f_Key_idents, t.f_goes_wrong, t.f_first_going_wrong, t.f_faithful, t.f_rows_of, t.f_least_pair, t.f_Known___init__, t.f_Known___getitem__, t.f_Known___setitem__, t.f_Known_show, t.f_Things___init__, t.f_Things___getitem__, t.f_Things___setitem__, t.f_Things_show, t.f_is_parting, t.f_least_parting, t.f__law_mixed, t.f__law_bag, t.f__law_pick, t.f__law_choice, t.f__law_number, t.f__law_form, t.f__law_value, t.f__law_idents, t.f__law_any_key, t.f__law_told_items, t.f__law_all_rows, t.f__law_unlike_rows, t.f__law_first_of, t.f__law_least, t.f__law_plain, t.f__law_right, t.f__law_menu_of, t.f_law⟩
theorem fa_mk {w : World} {K : PySem.W.Frag} {h : Heap} {mg : Str → Option Value} {Key COUNTS Known Things : Addr} (X : K.In h) (G : h.Ns mainGlobals mg) (aKey : PySem.W.nsIn K mainGlobals "Key" = some (some (.ref Key))) (aCOUNTS : PySem.W.nsIn K mainGlobals "COUNTS" = some (some (.ref COUNTS))) (aKnown : PySem.W.nsIn K mainGlobals "Known" = some (some (.ref Known))) (aThings : PySem.W.nsIn K mainGlobals "Things" = some (some (.ref Things))) (pgKey : PySem.W.plainGet K Key Str.empty = true) (hdKey : PySem.W.hasDictIn K Key = true) (poKey : PySem.W.plainOver K Key = true) (saKey : PySem.W.findIn K (.ref Key) "__setattr__" = some (some (.builtin "object.__setattr__"))) (pgKnown : PySem.W.plainGet K Known Str.empty = true) (hdKnown : PySem.W.hasDictIn K Known = true) (poKnown : PySem.W.plainOver K Known = true) (saKnown : PySem.W.findIn K (.ref Known) "__setattr__" = some (some (.builtin "object.__setattr__"))) (pgThings : PySem.W.plainGet K Things Str.empty = true) (hdThings : PySem.W.hasDictIn K Things = true) (poThings : PySem.W.plainOver K Things = true) (saThings : PySem.W.findIn K (.ref Things) "__setattr__" = some (some (.builtin "object.__setattr__")))
    (T : Cls K Key → mg "Key" = some (.ref Key) → Cls K Known → mg "Known" = some (.ref Known) → Cls K Things → mg "Things" = some (.ref Things) → FaX K w mg Key COUNTS Known Things) : ∃ A, Fa K w mg A := ⟨_, (T ⟨pgKey, hdKey, poKey, saKey⟩ (PySem.W.mg_of X G aKey) ⟨pgKnown, hdKnown, poKnown, saKnown⟩ (PySem.W.mg_of X G aKnown) ⟨pgThings, hdThings, poThings, saThings⟩ (PySem.W.mg_of X G aThings)).fa⟩

end K28
end L3

open PySem PySem.W PyProof.Rows
set_option maxRecDepth 100000 in
set_option maxHeartbeats 0 in
theorem PySem.Challenge.cw_pagesheld_k28_whole_least_pair_holds : PySem.Challenge.rw_pagesheld_k28_whole_least_pair.Holds := by
  w_on; o_law; k_head; (case hw => w_witness2)
  k_fill
  refine L3.K28.walk (l := PySem.Challenge.rw_pagesheld_k28_whole_least_pair) rfl rfl rfl (fun w h Y => PySem.W.kIn_of Y) ?F
  case F =>
    intro w mg h KX G
    refine' L3.K28.fa_mk KX G ?aKey ?aCOUNTS ?aKnown ?aThings ?pgKey ?hdKey ?poKey ?saKey ?pgKnown ?hdKnown ?poKnown ?saKnown ?pgThings ?hdThings ?poThings ?saThings ?T
    (case aKey => k_is); (case aCOUNTS => k_is); (case aKnown => k_is); (case aThings => k_is); (case pgKey => k_is); (case hdKey => k_is); (case poKey => k_is); (case saKey => k_is); (case pgKnown => k_is); (case hdKnown => k_is); (case poKnown => k_is); (case saKnown => k_is); (case pgThings => k_is); (case hdThings => k_is); (case poThings => k_is); (case saThings => k_is)
    intro hC_Key aC_Key hC_Known aC_Known hC_Things aC_Things
    refine' L3.K28.FaX.mk ?_ ?_ ?_ ?_ ?_ ?_ ?_ ?_ ?_ ?_ ?_ ?_ ?_ ?_ ?_ ?_ ?_ ?_ ?_ ?_ ?_ ?_ ?_ ?_ ?_ ?_ ?_ ?_ ?_ ?_ ?_ ?_ ?_ ?_ ?_ ?_ ?_ ?_ ?_ ?_ ?_ ?_ ?_ ?_ ?_ ?_ ?_ ?_ ?_ ?_ ?_ ?_ ?_ ?_ ?_ ?_ ?_ ?_ ?_ ?_ ?_ ?_ ?_ ?_ ?_ ?_ ?_ ?_ ?_
    · exact PySem.W.mg_none_of KX G (by k_is)
    · exact PySem.W.mg_none_of KX G (by k_is)
    · exact PySem.W.mg_none_of KX G (by k_is)
    · refine' L3.gl_mk KX G ?a ?r; (case a => k_is); (case r => first | exact rfl | exact ⟨_, rfl⟩)
    · exact PySem.W.mg_none_of KX G (by k_is)
    · exact PySem.W.mg_none_of KX G (by k_is)
    · exact PySem.W.mg_none_of KX G (by k_is)
    · exact PySem.W.mg_none_of KX G (by k_is)
    · refine' L3.gl_mk KX G ?a ?r; (case a => k_is); (case r => first | exact rfl | exact ⟨_, rfl⟩)
    · refine' L3.kd_mk ?l ?lit ?low ?h; (case l => k_is); (case lit => exact ⟨⟨_, _, rfl, rfl⟩, ⟨_, _, rfl, rfl⟩, ⟨_, _, rfl, rfl⟩, ⟨_, _, rfl, rfl⟩, ⟨_, _, rfl, rfl⟩, trivial⟩); (case low => rfl); (case h => (refine' L3.tb_mk ?a ?r ?n0; (case a => k_is); (case r => first | exact rfl | exact ⟨_, rfl⟩); refine' L3.tb_mk ?a ?r ?n1; (case a => k_is); (case r => first | exact rfl | exact ⟨_, rfl⟩); refine' L3.tb_mk ?a ?r ?n2; (case a => k_is); (case r => first | exact rfl | exact ⟨_, rfl⟩); refine' L3.tb_mk ?a ?r ?n3; (case a => k_is); (case r => first | exact rfl | exact ⟨_, rfl⟩); refine' L3.tb_mk ?a ?r ?n4; (case a => k_is); (case r => first | exact rfl | exact ⟨_, rfl⟩); exact trivial))
    · exact PySem.W.mg_none_of KX G (by k_is)
    · refine' L3.gl_mk KX G ?a ?r; (case a => k_is); (case r => first | exact rfl | exact ⟨_, rfl⟩)
    · refine' L3.gl_mk KX G ?a ?r; (case a => k_is); (case r => first | exact rfl | exact ⟨_, rfl⟩)
    · exact hC_Key
    · show PySem.W.findIn _ _ _ = _; k_is
    · exact hC_Known
    · show PySem.W.findIn _ _ _ = _; k_is
    · show PySem.W.findIn _ _ _ = _; k_is
    · show PySem.W.findIn _ _ _ = _; k_is
    · show PySem.W.findIn _ _ _ = _; k_is
    · exact rfl
    · exact hC_Things
    · show PySem.W.findIn _ _ _ = _; k_is
    · show PySem.W.findIn _ _ _ = _; k_is
    · exact PySem.W.mg_none_of KX G (by k_is)
    · exact PySem.W.mg_none_of KX G (by k_is)
    · refine' L3.dg_mk KX G ?a ?l ?c ?k; (case a => k_is); (case l => k_is); (case c => k_is); (case k => k_is)
    · refine' L3.dg_mk KX G ?a ?l ?c ?k; (case a => k_is); (case l => k_is); (case c => k_is); (case k => k_is)
    · refine' L3.dg_mk KX G ?a ?l ?c ?k; (case a => k_is); (case l => k_is); (case c => k_is); (case k => k_is)
    · refine' L3.dg_mk KX G ?a ?l ?c ?k; (case a => k_is); (case l => k_is); (case c => k_is); (case k => k_is)
    · refine' L3.dg_mk KX G ?a ?l ?c ?k; (case a => k_is); (case l => k_is); (case c => k_is); (case k => k_is)
    · refine' L3.dg_mk KX G ?a ?l ?c ?k; (case a => k_is); (case l => k_is); (case c => k_is); (case k => k_is)
    · refine' L3.dg_mk KX G ?a ?l ?c ?k; (case a => k_is); (case l => k_is); (case c => k_is); (case k => k_is)
    · refine' L3.dg_mk KX G ?a ?l ?c ?k; (case a => k_is); (case l => k_is); (case c => k_is); (case k => k_is)
    · refine' L3.dm_mk ?a ?l ?c ?k ?i ?m ?kp ?g; (case a => k_is); (case l => k_is); (case c => k_is); (case k => k_is); (case i => k_is); (case m => k_is); (case kp => k_is); (case g => exact aC_Key)
    · refine' L3.de_mk ?a ?l ?c ?k ?i; (case a => k_is); (case l => k_is); (case c => k_is); (case k => k_is); (case i => k_is)
    · refine' L3.dg_mk KX G ?a ?l ?c ?k; (case a => k_is); (case l => k_is); (case c => k_is); (case k => k_is)
    · refine' L3.dg_mk KX G ?a ?l ?c ?k; (case a => k_is); (case l => k_is); (case c => k_is); (case k => k_is)
    · refine' L3.dg_mk KX G ?a ?l ?c ?k; (case a => k_is); (case l => k_is); (case c => k_is); (case k => k_is)
    · refine' L3.dg_mk KX G ?a ?l ?c ?k; (case a => k_is); (case l => k_is); (case c => k_is); (case k => k_is)
    · refine' L3.dg_mk KX G ?a ?l ?c ?k; (case a => k_is); (case l => k_is); (case c => k_is); (case k => k_is)
    · refine' L3.dm_mk ?a ?l ?c ?k ?i ?m ?kp ?g; (case a => k_is); (case l => k_is); (case c => k_is); (case k => k_is); (case i => k_is); (case m => k_is); (case kp => k_is); (case g => exact aC_Known)
    · refine' L3.dsm_mk ?a ?l ?c ?k ?fi ?i ?nsq; (case a => k_is); (case l => k_is); (case c => k_is); (case k => k_is); (case fi => k_is); (case i => k_is); (case nsq => k_is)
    · refine' L3.dsm_mk ?a ?l ?c ?k ?fi ?i ?nsq; (case a => k_is); (case l => k_is); (case c => k_is); (case k => k_is); (case fi => k_is); (case i => k_is); (case nsq => k_is)
    · refine' L3.de_mk ?a ?l ?c ?k ?i; (case a => k_is); (case l => k_is); (case c => k_is); (case k => k_is); (case i => k_is)
    · refine' L3.dm_mk ?a ?l ?c ?k ?i ?m ?kp ?g; (case a => k_is); (case l => k_is); (case c => k_is); (case k => k_is); (case i => k_is); (case m => k_is); (case kp => k_is); (case g => exact aC_Things)
    · refine' L3.dsm_mk ?a ?l ?c ?k ?fi ?i ?nsq; (case a => k_is); (case l => k_is); (case c => k_is); (case k => k_is); (case fi => k_is); (case i => k_is); (case nsq => k_is)
    · refine' L3.dsm_mk ?a ?l ?c ?k ?fi ?i ?nsq; (case a => k_is); (case l => k_is); (case c => k_is); (case k => k_is); (case fi => k_is); (case i => k_is); (case nsq => k_is)
    · refine' L3.de_mk ?a ?l ?c ?k ?i; (case a => k_is); (case l => k_is); (case c => k_is); (case k => k_is); (case i => k_is)
    · refine' L3.dg_mk KX G ?a ?l ?c ?k; (case a => k_is); (case l => k_is); (case c => k_is); (case k => k_is)
    · refine' L3.dg_mk KX G ?a ?l ?c ?k; (case a => k_is); (case l => k_is); (case c => k_is); (case k => k_is)
    · refine' L3.dg_mk KX G ?a ?l ?c ?k; (case a => k_is); (case l => k_is); (case c => k_is); (case k => k_is)
    · refine' L3.dg_mk KX G ?a ?l ?c ?k; (case a => k_is); (case l => k_is); (case c => k_is); (case k => k_is)
    · refine' L3.dg_mk KX G ?a ?l ?c ?k; (case a => k_is); (case l => k_is); (case c => k_is); (case k => k_is)
    · refine' L3.dg_mk KX G ?a ?l ?c ?k; (case a => k_is); (case l => k_is); (case c => k_is); (case k => k_is)
    · refine' L3.dg_mk KX G ?a ?l ?c ?k; (case a => k_is); (case l => k_is); (case c => k_is); (case k => k_is)
    · refine' L3.dg_mk KX G ?a ?l ?c ?k; (case a => k_is); (case l => k_is); (case c => k_is); (case k => k_is)
    · refine' L3.dg_mk KX G ?a ?l ?c ?k; (case a => k_is); (case l => k_is); (case c => k_is); (case k => k_is)
    · refine' L3.dg_mk KX G ?a ?l ?c ?k; (case a => k_is); (case l => k_is); (case c => k_is); (case k => k_is)
    · refine' L3.dg_mk KX G ?a ?l ?c ?k; (case a => k_is); (case l => k_is); (case c => k_is); (case k => k_is)
    · refine' L3.dg_mk KX G ?a ?l ?c ?k; (case a => k_is); (case l => k_is); (case c => k_is); (case k => k_is)
    · refine' L3.dg_mk KX G ?a ?l ?c ?k; (case a => k_is); (case l => k_is); (case c => k_is); (case k => k_is)
    · refine' L3.dg_mk KX G ?a ?l ?c ?k; (case a => k_is); (case l => k_is); (case c => k_is); (case k => k_is)
    · refine' L3.dg_mk KX G ?a ?l ?c ?k; (case a => k_is); (case l => k_is); (case c => k_is); (case k => k_is)
    · refine' L3.dg_mk KX G ?a ?l ?c ?k; (case a => k_is); (case l => k_is); (case c => k_is); (case k => k_is)
    · refine' L3.dg_mk KX G ?a ?l ?c ?k; (case a => k_is); (case l => k_is); (case c => k_is); (case k => k_is)
    · refine' L3.dg_mk KX G ?a ?l ?c ?k; (case a => k_is); (case l => k_is); (case c => k_is); (case k => k_is)
    · refine' L3.dg_mk KX G ?a ?l ?c ?k; (case a => k_is); (case l => k_is); (case c => k_is); (case k => k_is)
    · refine' L3.dg_mk KX G ?a ?l ?c ?k; (case a => k_is); (case l => k_is); (case c => k_is); (case k => k_is)
