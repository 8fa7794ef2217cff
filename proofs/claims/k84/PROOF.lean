import PyProof.Rows.All
import HandS.Base
import HandS.Call
import HandS.List
import HandS.Dict
import HandS.Comp
import HandS.Exc
import HandS.ExcOwn
import HandS.ExcInit
import HandS.TryMany
import HandS.ExcField
import HandS.OwnEq
import Wide.All
import OpenK.AllK
import Wide.FinOn
import PyProof.TupleCall
import HandS.TupAny
import HandS.TupMul
import HandS.IsInst
import HandS.More
import HandS.Steps
import HandS.Star
import KE.KExcInit
import KE.KExcSuper
import HandS.Walk
import HandS.Zip
import KE.KRevSl
import PyProof.InstEq
import KE.GoesMore
import HandS.Conv
import HandS.HeadHook2
import PyProof.ReprRoads
import PyProof.CallFns
import PyProof.Reaches
import HandS.Head0
import HandS.Head1
import HandS.Head2
import HandS.ForMost
import KE.KDictDisplayH
import KE.KDictKeyed
import HandS.Words
import HandS.HeadEnd
import HandS.HeadHook3
import HandS.Ends
import KE.KDictPairs
import PySem.Challenge.RW_boxeffects_k84_programs_built
set_option Elab.async false
set_option linter.all false
set_option maxRecDepth 100000
set_option maxHeartbeats 2000000
/-! tuples that are made here, each with its object: it has no dict of its own -/
namespace DL
open PySem PySem.Spec L2
open PyProof.Rows hiding St
abbrev tupO (us : List Value) : Obj := { cls := .type "tuple", data := .seq us.toArray }
section
variable {X : Cx} {pins : List (Addr × Obj)} {σ : L2.St} {H : Hp} {s : Shared} {xs ys : List V} {us : List Value} {es : List Expr} {t : TA} {pos : Pos}
theorem newT (I : Inv X pins σ H s) (r : Vals xs us) (hz : xs.length ≤ sizeLine) : Inv X pins σ (upd H s.heap.objs.size (.frz (tupO us) (.tup xs))) { s with heap := s.heap.push (tupO us) } :=
  I.laid (t' := s.toks) (fun b u e => Heap.get?_push_of_some _ e) (Nat.le_refl _) (show ObjOk X.prog X.w _ _ _ (.frz (tupO us) (.tup xs)) from ⟨Heap.get?_push_size _ rfl, hz, us, r, IsTup.new _ _⟩)
/-- a tuple display -/
def tTupP (t : TA) : TE := fun σ H Q => t σ H fun xs H1 => xs.length ≤ sizeLine ∧ ∀ p ob, H1 p = none → ob.dict = none → Q (.ref p) (upd H1 p (.frz ob (.tup xs)))
theorem pe_tupP {x1 : Nat} (h : PA X es t) : PE X (.Tuple es x1 pos) (tTupP t) := by
  refine ⟨fun pins s σ H Q I hq => wpAny_Tuple_spliced (thn (h.run pos pins s σ H _ I hq) fun us s1 ⟨xs, H1, I1, r, z, q⟩ => ⟨by rw [← r.length]; exact z, ?_⟩)⟩
  exact ⟨.ref s1.heap.objs.size, _, newT I1 r z, rfl, q _ _ (I1.hok.fresh (Nat.le_refl _)) rfl⟩
/-- tuple(x) of a list, or of a tuple -/
theorem call_tupleP : CallR X (.type "tuple") (fun vs H Q => ∃ p ys, vs = [.ref p] ∧ ((SqL X.K H p ys ∧ ∀ l ob, H l = none → ob.dict = none → Q (.ref l) (upd H l (.frz ob (.tup ys)))) ∨ (SqT X.K H p ys ∧ Q (.ref p) H))) := by
  intro pins s σ H vs us Q I r h
  obtain ⟨p, ys, rfl, h⟩ := h
  obtain ⟨u, rfl, rx⟩ := vals1 r
  cases rx
  rcases h with ⟨hq, q⟩ | ⟨hq, q⟩
  · obtain ⟨its, r2, pl, hz⟩ := I.list hq
    have len := r2.length
    refine call_tuple_list pl.isList (fun h' kp => ?_) (by simp only [List.size_toArray] <;> omega)
    have I1 : Inv X pins σ H { s with heap := h' } := I.kept (t' := s.toks) kp
    exact ⟨.ref h'.objs.size, _, newT I1 r2 hz, rfl, q _ _ (I1.hok.fresh (Nat.le_refl _)) rfl⟩
  · obtain ⟨its, r2, pl, hz⟩ := I.tuple hq
    exact call_tuple_same pl ⟨.ref p, H, I, rfl, q⟩
/-- t + u -/
def rCatP (K : PySem.W.Frag) : R2 := fun x y H Q => ∃ a b xs ys, x = .ref a ∧ y = .ref b ∧ SqT K H a xs ∧ SqT K H b ys ∧ xs.length + ys.length ≤ sizeLine ∧
  (xs = [] → Q (.ref b) H) ∧ (xs ≠ [] → ys = [] → Q (.ref a) H) ∧ (xs ≠ [] → ys ≠ [] → ∀ p ob, H p = none → ob.dict = none → Q (.ref p) (upd H p (.frz ob (.tup (xs ++ ys)))))
theorem op_catP : OpR X (binaryOp .Add) (rCatP X.K) := by
  intro pins s σ H x y v u Q I rx ry h
  obtain ⟨a, b, xs, ys, rfl, rfl, ha, hb, hz, q0, q1, q2⟩ := h
  cases rx
  cases ry
  obtain ⟨i1, r1, p1, _⟩ := I.tuple ha
  obtain ⟨i2, r2, p2, _⟩ := I.tuple hb
  by_cases hx : xs = []
  · subst hx
    cases r1
    exact cat_tup0 p1 p2 ⟨.ref b, H, I, rfl, q0 rfl⟩
  · refine HT.cat_tup p1 p2 (fun z => hx (r1.nil_iff.mp z)) (fun z => ⟨.ref a, H, I, rfl, q1 hx (r2.nil_iff.mp z)⟩) (fun z => ?_) (by rw [← r1.length, ← r2.length]; exact hz)
    exact ⟨.ref s.heap.objs.size, _, newT I (r1.append r2) (by rw [List.length_append]; exact hz), rfl, q2 hx (fun w => z (r2.nil_iff.mpr w)) _ _ (I.hok.fresh (Nat.le_refl _)) rfl⟩
/-- t[lo:hi] -/
def rSlP (K : PySem.W.Frag) : V → Option Int → Option Int → Hp → VK → Prop := fun x lo hi H Q => ∃ a xs, x = .ref a ∧ SqT K H a xs ∧
  (HT.sIx xs.length 0 lo = 0 ∧ HT.sIx xs.length xs.length hi = xs.length → Q (.ref a) H) ∧ (¬ (HT.sIx xs.length 0 lo = 0 ∧ HT.sIx xs.length xs.length hi = xs.length) → ∀ p ob, H p = none → ob.dict = none → Q (.ref p) (upd H p (.frz ob (.tup (cutV xs lo hi)))))
theorem sl_tupP : SlR X (rSlP X.K) := by
  intro pins s σ H x v vl vu lo hi sl Q I rx hs pl pu h
  obtain ⟨a, xs, rfl, hx, q1, q2⟩ := h
  cases rx
  obtain ⟨its, r, ht, hz⟩ := I.tuple hx
  have len : its.toArray.size = xs.length := by rw [List.size_toArray]; exact r.length.symm
  refine ⟨"tuple", _, PyProof.Rows.slot_tuple_getitem.lookup, ht.typeIs, ?_⟩
  by_cases hw : HT.sIx xs.length 0 lo = 0 ∧ HT.sIx xs.length xs.length hi = xs.length
  · exact getItem_tuple_whole ht hs pl pu (by rw [len]; exact hw) ⟨.ref a, H, I, rfl, q1 hw⟩
  · refine HT.getItem_tuple_cut ht hs pl pu (by rw [len]; exact hw) ?_ (by rw [len]; exact hz)
    rw [len]
    exact ⟨.ref s.heap.objs.size, _, newT I ((r.drop (HT.sIx xs.length 0 lo)).take (HT.sIx xs.length xs.length hi - HT.sIx xs.length 0 lo)) (Nat.le_trans (cutV_length xs lo hi) hz), rfl, q2 hw _ _ (I.hok.fresh (Nat.le_refl _)) rfl⟩
/-- t * n -/
def rRepP (K : PySem.W.Frag) : R2 := fun x y H Q => ∃ l k xs, x = .ref l ∧ y = .int k ∧ SqT K H l xs ∧ xs ≠ [] ∧ 2 ≤ k ∧ k ≤ 1000 ∧ xs.length ≤ 1000 ∧ ∀ p ob, H p = none → ob.dict = none → Q (.ref p) (upd H p (.frz ob (.tup (List.replicate k.toNat xs).flatten)))
theorem op_repP : OpR X (binaryOp .Mult) (rRepP X.K) := by
  intro pins s σ H x y v u Q I rx ry h
  obtain ⟨l, k, xs, rfl, rfl, hT, hne, h1, h2, hz, q⟩ := h
  cases rx
  obtain ⟨tk, rfl⟩ := ry
  obtain ⟨its, r, ⟨⟨cls, dd, data, sl⟩, ho, hc, n, hd⟩, hs⟩ := I.tuple hT
  simp only at hc hd
  subst hc hd
  have le : its.length = xs.length := r.length.symm
  have nn : its ≠ [] := fun e => hne (List.eq_nil_of_length_eq_zero (by rw [← le, e]; rfl))
  have em : its.toArray.isEmpty = false := by cases its <;> first | rfl | exact absurd rfl nn
  have sz : its.toArray.size = xs.length := by rw [List.size_toArray, le]
  have hm : ((its.toArray.size : Nat) : Int) * k ≤ 1000000 := by
    rw [sz]
    have a1 : ((xs.length : Nat) : Int) * k ≤ 1000 * k := Int.mul_le_mul_of_nonneg_right (by omega) (by omega)
    omega
  have a2 : k.toNat * xs.length ≤ 1000 * 1000 := Nat.mul_le_mul (by omega) hz
  have fl : (List.replicate k.toNat its).flatten.length ≤ sizeLine := by rw [PyProof.Rows.lm_len_rep_flat, le, sizeLine_eq]; omega
  have c0 : (decide (k < -(2 ^ 63)) || decide (k ≥ 2 ^ 63)) = false := by rw [decide_eq_false (by omega), decide_eq_false (by omega)] <;> rfl
  have c1 : (its.toArray.isEmpty || k == 1) = false := by rw [em, Bool.false_or]; exact beq_eq_false_iff_ne.mpr (by omega)
  have c2 : (decide (k ≤ 0) || its.toArray.isEmpty) = false := by rw [em, Bool.or_false]; exact decide_eq_false (by omega)
  have c4 : Builtin.Tuple.tupleTooMany (((its.toArray.size : Nat) : Int) * k) = false := by unfold Builtin.Tuple.tupleTooMany; rw [sizeLine_eq]; exact decide_eq_false (by omega)
  refine wpAny_binaryOp_repeat_ref (T := "tuple") (U := "int") (by decide) ⟨_, ho, rfl⟩ (fun s' => typeIs_int s' k tk) noFill_tuple_mul F.fills_int_mul F.slot_int_rmul repeat_tuple F.slot_int_index.lookup
    (call_meets F.slot_int_rmul (typeIs_int s k tk) F.entry_int_rmul (F.args_int_rmul_2 _ _) (int_rmul_tuple k tk l its.toArray n dd sl)
      ⟨ho, rfl, ⟨_, ho, rfl⟩, call_meets F.slot_tuple_mul ⟨_, ho, rfl⟩ F.entry_tuple_mul (F.args_tuple_mul_2 _ _) (tuple_mulW l its.toArray n dd sl k tk c0 c1 c2 (by omega) c4 (by rw [size_rep, List.size_toArray]; exact fl)) ⟨ho, ?_⟩⟩)
  rw [size_rep]
  exact ⟨.ref s.heap.objs.size, _, newT I (r.rep k.toNat) (by rw [PyProof.Rows.lm_len_rep_flat, sizeLine_eq]; omega), rfl, q _ _ (I.hok.fresh (Nat.le_refl _)) rfl⟩
end
end DL

set_option maxRecDepth 100000
set_option maxHeartbeats 2000000
namespace DL
open PySem PySem.Spec L2
open PyProof.Rows hiding St

/-- data: what a value is worth, sharing forgotten -/
inductive D where
  | non | bl (b : Bool) | int (i : Int) | str (x : Str)
  | tup (l : List D) | lst (l : List D) | dic (ks : List Key) (vs : List D) | ins (c : Addr) (ns : List Str) (vs : List D)

def KTup (K : PySem.W.Frag) (a : Addr) (xs : List V) : Prop :=
  ∃ (o : Obj) (its : Array Value) (n : Nat), K.lookup a = some o ∧ o.cls = .type "tuple" ∧ o.data = .seq its n ∧ its.size ≤ sizeLine ∧ Vals xs its.toList ∧ o.dict = none
/-- a tuple without a dict of its own -/
def PTup (G : Hp) (a : Addr) (xs : List V) : Prop := ∃ o : Obj, o.dict = none ∧ G a = some (.frz o (.tup xs))
def TupAt (K : PySem.W.Frag) (G : Hp) (a : Addr) (xs : List V) : Prop := PTup G a xs ∨ KTup K a xs

mutual
/-- the value v, in the shared part G, is worth d -/
def RV (K : PySem.W.Frag) (G : Hp) : D → V → Prop
  | .non, v => v = .non
  | .bl b, v => v = .bl b
  | .int i, v => v = .int i
  | .str x, v => v = .str x
  | .tup l, v => ∃ a xs, v = .ref a ∧ TupAt K G a xs ∧ RVs K G l xs
  | .lst l, v => ∃ a xs, v = .ref a ∧ G a = some (.lst xs) ∧ RVs K G l xs
  | .dic ks l, v => ∃ a kvs, v = .ref a ∧ G a = some (.dK kvs) ∧ kvs.map (·.1) = ks ∧ RVs K G l (kvs.map (·.2))
  | .ins c ns l, v => ∃ a dx fs, v = .ref a ∧ G a = some (.ins c dx fs) ∧ G dx = some (.own a) ∧ fs.map (·.1) = ns ∧ RVs K G l (fs.map (·.2))
def RVs (K : PySem.W.Frag) (G : Hp) : List D → List V → Prop
  | [], xs => xs = []
  | d :: l, xs => ∃ x r, xs = x :: r ∧ RV K G d x ∧ RVs K G l r
end

theorem TupAt.mono {K : PySem.W.Frag} {G G' : Hp} {a : Addr} {xs : List V} (e : Ext G G') (h : TupAt K G a xs) : TupAt K G' a xs := h.imp (fun ⟨o, h1, h2⟩ => ⟨o, h1, e _ _ h2⟩) id
mutual
theorem RV.mono {K : PySem.W.Frag} {G G' : Hp} (e : Ext G G') : ∀ (d : D) (v : V), RV K G d v → RV K G' d v
  | .non, _, h => h
  | .bl _, _, h => h
  | .int _, _, h => h
  | .str _, _, h => h
  | .tup l, _, h => by
    unfold RV at h ⊢
    obtain ⟨a, xs, h1, h2, h3⟩ := h
    exact ⟨a, xs, h1, h2.mono e, RVs.mono e l xs h3⟩
  | .lst l, _, h => by
    unfold RV at h ⊢
    obtain ⟨a, xs, h1, h2, h3⟩ := h
    exact ⟨a, xs, h1, e _ _ h2, RVs.mono e l xs h3⟩
  | .dic ks l, _, h => by
    unfold RV at h ⊢
    obtain ⟨a, xs, h1, h2, h3, h4⟩ := h
    exact ⟨a, xs, h1, e _ _ h2, h3, RVs.mono e l _ h4⟩
  | .ins c ns l, _, h => by
    unfold RV at h ⊢
    obtain ⟨a, dx, fs, h1, h2, h3, h4, h5⟩ := h
    exact ⟨a, dx, fs, h1, e _ _ h2, e _ _ h3, h4, RVs.mono e l _ h5⟩
theorem RVs.mono {K : PySem.W.Frag} {G G' : Hp} (e : Ext G G') : ∀ (l : List D) (xs : List V), RVs K G l xs → RVs K G' l xs
  | [], _, h => h
  | d :: l, _, h => by
    unfold RVs at h ⊢
    obtain ⟨x, r, h1, h2, h3⟩ := h
    exact ⟨x, r, h1, RV.mono e d x h2, RVs.mono e l r h3⟩
end
section
variable {K : PySem.W.Frag} {G G' : Hp}
theorem RVs.nil : RVs K G [] [] := by unfold RVs; rfl
theorem RVs.cons {d : D} {l : List D} {x : V} {r : List V} (h : RV K G d x) (t : RVs K G l r) : RVs K G (d :: l) (x :: r) := by unfold RVs; exact ⟨x, r, rfl, h, t⟩
theorem RVs.inv_nil {xs : List V} (h : RVs K G [] xs) : xs = [] := by unfold RVs at h; exact h
theorem RVs.inv_cons {d : D} {l : List D} {xs : List V} (h : RVs K G (d :: l) xs) : ∃ x r, xs = x :: r ∧ RV K G d x ∧ RVs K G l r := by unfold RVs at h; exact h
theorem RVs.length : ∀ {l : List D} {xs : List V}, RVs K G l xs → l.length = xs.length
  | [], _, h => by rw [h.inv_nil]; rfl
  | d :: l, _, h => by
    obtain ⟨x, r, rfl, _, t⟩ := h.inv_cons
    simp [RVs.length t]
theorem RVs.append : ∀ {l m : List D} {xs ys : List V}, RVs K G l xs → RVs K G m ys → RVs K G (l ++ m) (xs ++ ys)
  | [], _, _, _, h, t => by rw [h.inv_nil]; exact t
  | d :: l, _, _, _, h, t => by
    obtain ⟨x, r, rfl, hd, ht⟩ := h.inv_cons
    exact .cons hd (RVs.append ht t)
theorem RVs.get : ∀ {l : List D} {xs : List V} {i : Nat} {d : D}, RVs K G l xs → l[i]? = some d → ∃ x, xs[i]? = some x ∧ RV K G d x
  | [], _, _, _, _, e => by simp at e
  | d :: l, _, 0, _, h, e => by
    obtain ⟨x, r, rfl, hd, ht⟩ := h.inv_cons
    simp at e; subst e
    exact ⟨x, rfl, hd⟩
  | d :: l, _, i + 1, _, h, e => by
    obtain ⟨x, r, rfl, hd, ht⟩ := h.inv_cons
    obtain ⟨y, h1, h2⟩ := RVs.get (i := i) ht (by simpa using e)
    exact ⟨y, by simpa using h1, h2⟩
theorem RVs.get' : ∀ {l : List D} {xs : List V} {i : Nat} {x : V}, RVs K G l xs → xs[i]? = some x → ∃ d, l[i]? = some d ∧ RV K G d x := fun {l xs i x} h e => by
  have hl := h.length
  have hi : i < xs.length := (List.getElem?_eq_some_iff.mp e).1
  obtain ⟨y, h1, h2⟩ := h.get (List.getElem?_eq_getElem (by omega : i < l.length))
  rw [e] at h1
  cases h1
  exact ⟨_, List.getElem?_eq_getElem (by omega : i < l.length), h2⟩
theorem RVs.set {d : D} {x : V} (hx : RV K G d x) : ∀ {l : List D} {xs : List V} (i : Nat), RVs K G l xs → RVs K G (l.set i d) (xs.set i x)
  | [], _, _, h => by rw [h.inv_nil]; exact .nil
  | e :: l, _, 0, h => by
    obtain ⟨y, r, rfl, hd, ht⟩ := h.inv_cons
    exact .cons hx ht
  | e :: l, _, i + 1, h => by
    obtain ⟨y, r, rfl, hd, ht⟩ := h.inv_cons
    exact .cons hd (RVs.set hx i ht)
theorem RVs.take : ∀ {l : List D} {xs : List V} (n : Nat), RVs K G l xs → RVs K G (l.take n) (xs.take n)
  | _, _, 0, _ => by simp; exact .nil
  | [], _, n + 1, h => by rw [h.inv_nil]; exact .nil
  | e :: l, _, n + 1, h => by
    obtain ⟨y, r, rfl, hd, ht⟩ := h.inv_cons
    exact .cons hd (RVs.take n ht)
theorem RVs.drop : ∀ {l : List D} {xs : List V} (n : Nat), RVs K G l xs → RVs K G (l.drop n) (xs.drop n)
  | _, _, 0, h => h
  | [], _, n + 1, h => by rw [h.inv_nil]; exact .nil
  | e :: l, _, n + 1, h => by
    obtain ⟨y, r, rfl, hd, ht⟩ := h.inv_cons
    exact RVs.drop n ht
theorem RVs.reverse : ∀ {l : List D} {xs : List V}, RVs K G l xs → RVs K G l.reverse xs.reverse
  | [], _, h => by rw [h.inv_nil]; exact .nil
  | e :: l, _, h => by
    obtain ⟨y, r, rfl, hd, ht⟩ := h.inv_cons
    simp only [List.reverse_cons]
    exact (RVs.reverse ht).append (.cons hd .nil)
end

/-! ### owned things -/
/-- whose an address is: a slot's (none: the value at hand), its field's -/
abbrev Own := Addr → Option (Option Nat × Option Str)
/-- a field of an owned instance -/
inductive F where
  | v (d : D) | lst (l : List D) | dic (ks : List Key) (vs : List D)
/-- what a slot holds: a shared value, or an object of its own -/
inductive C where
  | v (d : D) | lst (l : List D) | dic (ks : List Key) (vs : List D) | ins (c : Addr) (ns : List Str) (fs : List F)

section
variable (K : PySem.W.Frag) (H G : Hp) (own : Own) (i : Option Nat)
def RF (t : Str) : F → V → Prop
  | .v d, v => RV K G d v
  | .lst l, v => ∃ a xs, v = .ref a ∧ H a = some (.lst xs) ∧ own a = some (i, some t) ∧ RVs K G l xs
  | .dic ks l, v => ∃ a kvs, v = .ref a ∧ H a = some (.dK kvs) ∧ own a = some (i, some t) ∧ kvs.map (·.1) = ks ∧ RVs K G l (kvs.map (·.2))
def RFs : List Str → List F → List (Str × V) → Prop
  | [], [], [] => True
  | n :: ns, f :: fs, p :: r => p.1 = n ∧ RF K H G own i n f p.2 ∧ RFs ns fs r
  | _, _, _ => False
def RC : C → V → Prop
  | .v d, v => RV K G d v
  | .lst l, v => ∃ a xs, v = .ref a ∧ H a = some (.lst xs) ∧ own a = some (i, none) ∧ RVs K G l xs
  | .dic ks l, v => ∃ a kvs, v = .ref a ∧ H a = some (.dK kvs) ∧ own a = some (i, none) ∧ kvs.map (·.1) = ks ∧ RVs K G l (kvs.map (·.2))
  | .ins c ns fs, v => ∃ a dx vf, v = .ref a ∧ H a = some (.ins c dx vf) ∧ H dx = some (.own a) ∧ own a = some (i, none) ∧ own dx = some (i, none) ∧ ns.Nodup ∧ RFs K H G own i ns fs vf
end
abbrev Env := List (Option C)
/-- where a def began -/
structure Orig where
  H : Hp
  G : Hp
  own : Own
  vs : List V
/-- what stands in the whole as it stands in the shared part -/
inductive ExB : HO → Prop where
  | ins (C dx : Addr) (fs : List (Str × V)) : ExB (.ins C dx fs)
  | pt (o : Obj) (xs : List V) : ExB (.frz o (.tup xs))
structure Good (H G : Hp) (own : Own) : Prop where
  rd : ∀ a u, G a = some u → Rd H a u
  rdi : ∀ a u, ExB u → G a = some u → H a = some u
  sep : ∀ a, G a ≠ none → own a = none
  live : ∀ a, own a ≠ none → H a ≠ none
structure Stp (H G : Hp) (own : Own) (H' G' : Hp) (own' : Own) : Prop where
  keep : ∀ a u, H a = some u → own a = none → H' a = some u
  grow : Ext G G'
  orig : ∀ a, own' a ≠ none → own a ≠ none ∨ H a = none
  origG : ∀ a, G' a ≠ none → G a ≠ none ∨ own a ≠ none ∨ H a = none
  there : ∀ a, H a ≠ none → H' a ≠ none
structure Cfg (K : PySem.W.Frag) (o : Orig) (σ : St) (H G : Hp) (own : Own) (ρ : Env) : Prop where
  er : ∀ (i : Nat) (c : C), ρ[i]? = some (some c) → ∃ v, σ[i]? = some (some v) ∧ RC K H G own (some i) c v
  good : Good H G own
  stp : Stp o.H o.G o.own H G own
  pins : ∀ (j : Nat) (v : V), o.vs[j]? = some v → σ[j]? = some (some v)

theorem Stp.refl {H G : Hp} {own : Own} : Stp H G own H G own := ⟨fun _ _ h _ => h, Ext.rfl', fun _ h => .inl h, fun _ h => .inl h, fun _ h => h⟩
theorem Stp.trans {H G H1 G1 H2 G2 : Hp} {own own1 own2 : Own} (a : Stp H G own H1 G1 own1) (b : Stp H1 G1 own1 H2 G2 own2) : Stp H G own H2 G2 own2 := by
  have k : ∀ x, H1 x = none → H x = none ∨ own x ≠ none := fun x hx => by
    cases e : H x with
    | none => exact .inl rfl
    | some u =>
      refine .inr fun z => ?_
      rw [a.keep x u e z] at hx
      cases hx
  refine ⟨fun x u h n => b.keep x u (a.keep x u h n) ?_, a.grow.trans b.grow, fun x h => ?_, fun x h => ?_, fun x h => b.there x (a.there x h)⟩
  · cases e : own1 x with
    | none => rfl
    | some y =>
      rcases a.orig x (by rw [e]; simp) with q | q
      · exact absurd n q
      · rw [h] at q; cases q
  · rcases b.orig x h with q | q
    · exact a.orig x q
    · exact (k x q).symm
  · rcases b.origG x h with q | q | q
    · exact a.origG x q
    · exact .inr (a.orig x q)
    · exact .inr (k x q).symm

/-! ### outcomes -/
inductive R (α : Type) where
  | ok (a : α) (ρ : Env) | exc (c : Addr) (fs : List (Str × D)) (ρ : Env) | bad
def R.bind {α β : Type} (r : R α) (k : α → Env → R β) : R β := match r with
  | .ok a ρ => k a ρ
  | .exc c fs ρ => .exc c fs ρ
  | .bad => .bad
theorem R.bind_ok {α β : Type} {a : α} {ρ : Env} {k : α → Env → R β} : (R.ok a ρ).bind k = k a ρ := rfl
theorem R.bind_exc {α β : Type} {c : Addr} {fs : List (Str × D)} {ρ : Env} {k : α → Env → R β} : (R.exc c fs ρ : R α).bind k = .exc c fs ρ := rfl
theorem R.bind_bad {α β : Type} {k : α → Env → R β} : (R.bad : R α).bind k = .bad := rfl
inductive Fl where
  | nx | ret (c : C) | bk | ct

def XF (K : PySem.W.Frag) (G : Hp) (fs : List (Str × D)) (vf : List (Str × V)) : Prop := fs.map (·.1) = vf.map (·.1) ∧ RVs K G (fs.map (·.2)) (vf.map (·.2))
/-- what an exception is -/
def WO (K : PySem.W.Frag) (o : Orig) {α : Type} (r : R α) : WX := fun cls d σ H => ∃ c fs ρ, r = .exc c fs ρ ∧ cls = .ref c ∧ ∃ dd vf G own, d = some dd ∧ H dd = some (.xd vf) ∧ XF K G fs vf ∧
  Cfg K o σ H G own ρ ∧ own dd = none ∧ G dd = none ∧ o.H dd = none
/-- exceptions of r are exceptions of r' -/
def Xle {α β : Type} (r : R α) (r' : R β) : Prop := ∀ c fs ρ, r = .exc c fs ρ → r' = .exc c fs ρ
theorem Xle.refl {α : Type} {r : R α} : Xle r r := fun _ _ _ h => h
theorem Xle.bind {α β : Type} {r : R α} {k : α → Env → R β} : Xle r (r.bind k) := fun _ _ _ h => by rw [h]; rfl
theorem Xle.trans {α β γ : Type} {r : R α} {r' : R β} {r'' : R γ} (a : Xle r r') (b : Xle r' r'') : Xle r r'' := fun c fs ρ h => b c fs ρ (a c fs ρ h)
theorem Xle.of_eq {α : Type} {r r' : R α} (h : r = r') : Xle r r' := h ▸ Xle.refl
theorem WO.imp {K : PySem.W.Frag} {o : Orig} {α β : Type} {r : R α} {r' : R β} (x : Xle r r') {cls : Value} {d : Option Addr} {σ : St} {H : Hp} (h : WO K o r cls d σ H) : WO K o r' cls d σ H := by
  obtain ⟨c, fs, ρ, e, q⟩ := h
  exact ⟨c, fs, ρ, x _ _ _ e, q⟩
theorem XE.imp {X : Cx} {W W' : WX} (h : ∀ c d σ H, W c d σ H → W' c d σ H) {u : Value} {s' : Shared} (x : XE X W u s') : XE X W' u s' := by
  obtain ⟨a, B, sI, pins, σ, H, cls, d, e, I, nb, up, sky, na, os, ag, w⟩ := x
  exact ⟨a, B, sI, pins, σ, H, cls, d, e, I, nb, up, sky, na, os, ag, h _ _ _ _ w⟩
theorem XE.unwish {X : Cx} {E : Value → Shared → Prop} {W : WX} {u : Value} {s' : Shared} (x : XE (X.wish E) W u s') : XE X W u s' := by
  obtain ⟨a, B, sI, pins, σ, H, cls, d, e, I, nb, up, sky, na, os, ag, w⟩ := x
  exact ⟨a, B, sI, pins, σ, H, cls, d, e, I.unwish, nb, up, sky, na, os, ag, w⟩

/-! ### judgements -/
/-- a run, kept shut (so that nobody looks into it unasked) -/
structure wE (Y : Cx) (e : Expr) (σ : St) (H : Hp) (Q : VK) : Prop where
  sh ::
  go : ∀ pins s, Inv Y pins σ H s → wpAny (model Y.prog Y.w) Y.A (eval e Y.env) (EP Y pins σ Q) Y.xe s
structure wT (Y : Cx) (e : Expr) (σ : St) (H : Hp) (Q : Bool → Hp → Prop) : Prop where
  sh ::
  go : ∀ pins s, Inv Y pins σ H s → wpAny (model Y.prog Y.w) Y.A (isTrue e Y.env (eval e Y.env)) (TP Y pins σ Q) Y.xe s
structure wA (Y : Cx) (es : List Expr) (σ : St) (H : Hp) (Q : List V → Hp → Prop) : Prop where
  sh ::
  go : ∀ pos pins s, Inv Y pins σ H s → wpAny (model Y.prog Y.w) Y.A (spliced (backTo pos (starEach es Y.env))) (AP Y pins σ Q) Y.xe s
structure wS (Y : Cx) (st : Stmt) (D : Ends) (σ : St) (H : Hp) : Prop where
  sh ::
  go : ∀ pins s, Inv Y pins σ H s → wpAny (model Y.prog Y.w) Y.A (exec st Y.env) (SP Y pins D) Y.xe s
structure wSs (Y : Cx) (st : List Stmt) (D : Ends) (σ : St) (H : Hp) : Prop where
  sh ::
  go : ∀ pins s, Inv Y pins σ H s → wpAny (model Y.prog Y.w) Y.A (execs st Y.env) (SP Y pins D) Y.xe s
section
variable {Y : Cx} {e : Expr} {es : List Expr} {st : Stmt} {sts : List Stmt} {σ : St} {H : Hp}
instance {Q : VK} : CoeFun (wE Y e σ H Q) fun _ => ∀ pins s, Inv Y pins σ H s → wpAny (model Y.prog Y.w) Y.A (eval e Y.env) (EP Y pins σ Q) Y.xe s := ⟨wE.go⟩
instance {Q : Bool → Hp → Prop} : CoeFun (wT Y e σ H Q) fun _ => ∀ pins s, Inv Y pins σ H s → wpAny (model Y.prog Y.w) Y.A (isTrue e Y.env (eval e Y.env)) (TP Y pins σ Q) Y.xe s := ⟨wT.go⟩
instance {Q : List V → Hp → Prop} : CoeFun (wA Y es σ H Q) fun _ => ∀ pos pins s, Inv Y pins σ H s → wpAny (model Y.prog Y.w) Y.A (spliced (backTo pos (starEach es Y.env))) (AP Y pins σ Q) Y.xe s := ⟨wA.go⟩
instance {D : Ends} : CoeFun (wS Y st D σ H) fun _ => ∀ pins s, Inv Y pins σ H s → wpAny (model Y.prog Y.w) Y.A (exec st Y.env) (SP Y pins D) Y.xe s := ⟨wS.go⟩
instance {D : Ends} : CoeFun (wSs Y sts D σ H) fun _ => ∀ pins s, Inv Y pins σ H s → wpAny (model Y.prog Y.w) Y.A (execs sts Y.env) (SP Y pins D) Y.xe s := ⟨wSs.go⟩
end
theorem pe_w {Y : Cx} {e : Expr} : PE Y e (wE Y e) := ⟨fun pins s _ _ _ I h => h pins s I⟩
theorem pt_w {Y : Cx} {e : Expr} : PT Y e (wT Y e) := ⟨fun pins s _ _ _ I h => h pins s I⟩
theorem pa_w {Y : Cx} {es : List Expr} : PA Y es (wA Y es) := ⟨fun pos pins s _ _ _ I h => h pos pins s I⟩
theorem ps_w {Y : Cx} {st : Stmt} : PS Y st (wS Y st) := ⟨fun pins s _ _ _ I h => h pins s I⟩
theorem pss_w {Y : Cx} {st : List Stmt} : PSs Y st (wSs Y st) := ⟨fun pins s _ _ _ I h => h pins s I⟩

/-- the wish of exceptions of r -/
abbrev Cx.to (X : Cx) (o : Orig) {α : Type} (r : R α) : Cx := X.wish (XE X (WO X.K o r))
abbrev ME := Env → R D
abbrev MT := Env → R Bool
abbrev MS := Env → R Fl
def OkE (K : PySem.W.Frag) (o : Orig) (σ : St) (G : Hp) (r : R D) : VK := fun v H' => ∃ d ρ' G' own', r = .ok d ρ' ∧ Cfg K o σ H' G' own' ρ' ∧ Ext G G' ∧ RV K G' d v
def OkT (K : PySem.W.Frag) (o : Orig) (σ : St) (G : Hp) (r : R Bool) : Bool → Hp → Prop := fun b H' => ∃ ρ' G' own', r = .ok b ρ' ∧ Cfg K o σ H' G' own' ρ' ∧ Ext G G'
def SE (X : Cx) (e : Expr) (m : ME) : Prop := ∀ o σ H G own ρ, Cfg X.K o σ H G own ρ → m ρ ≠ .bad → wE (Cx.to X o (m ρ)) e σ H (OkE X.K o σ G (m ρ))
def ST (X : Cx) (e : Expr) (m : MT) : Prop := ∀ o σ H G own ρ, Cfg X.K o σ H G own ρ → m ρ ≠ .bad → wT (Cx.to X o (m ρ)) e σ H (OkT X.K o σ G (m ρ))
/-- what stands behind a statement -/
def En (K : PySem.W.Frag) (o : Orig) (r : R Fl) : Ends where
  nx := fun σ' H' => ∃ ρ' G' own', r = .ok .nx ρ' ∧ Cfg K o σ' H' G' own' ρ'
  rt := fun v H' => ∃ c ρ' σ' G' own', r = .ok (.ret c) ρ' ∧ Cfg K o σ' H' G' own' ρ' ∧ RC K H' G' own' none c v
  bk := fun σ' H' => ∃ ρ' G' own', r = .ok .bk ρ' ∧ Cfg K o σ' H' G' own' ρ'
  ct := fun σ' H' => ∃ ρ' G' own', r = .ok .ct ρ' ∧ Cfg K o σ' H' G' own' ρ'
def SS (X : Cx) (np : Nat) (st : Stmt) (m : MS) : Prop := ∀ o σ H G own ρ, o.vs.length = np → Cfg X.K o σ H G own ρ → m ρ ≠ .bad → wS (Cx.to X o (m ρ)) st (En X.K o (m ρ)) σ H
def SSs (X : Cx) (np : Nat) (st : List Stmt) (m : MS) : Prop := ∀ o σ H G own ρ, o.vs.length = np → Cfg X.K o σ H G own ρ → m ρ ≠ .bad → wSs (Cx.to X o (m ρ)) st (En X.K o (m ρ)) σ H

section
variable {X : Cx} {o : Orig} {σ : St} {H G : Hp} {own : Own} {ρ : Env}
theorem wE_mono {E E' : Value → Shared → Prop} {e : Expr} {Q Q' : VK} (h : wE (X.wish E) e σ H Q) (hQ : ∀ v H', Q v H' → Q' v H') (hE : ∀ u s', E u s' → E' u s') : wE (X.wish E') e σ H Q' := .sh fun pins s I =>
  wpAny_mono (h pins s (I.unwish.wish E)) (fun _ _ ⟨v, H', I', r, q⟩ => ⟨v, H', I'.unwish.wish E', r, hQ _ _ q⟩) hE
theorem wT_mono {E E' : Value → Shared → Prop} {e : Expr} {Q Q' : Bool → Hp → Prop} (h : wT (X.wish E) e σ H Q) (hQ : ∀ v H', Q v H' → Q' v H') (hE : ∀ u s', E u s' → E' u s') : wT (X.wish E') e σ H Q' := .sh fun pins s I =>
  wpAny_mono (h pins s (I.unwish.wish E)) (fun _ _ ⟨H', I', q⟩ => ⟨H', I'.unwish.wish E', hQ _ _ q⟩) hE
theorem SP_mono {E E' : Value → Shared → Prop} {D D' : Ends} {pins : List (Addr × Obj)} (h1 : ∀ σ H, D.nx σ H → D'.nx σ H) (h2 : ∀ v H, D.rt v H → D'.rt v H) (h3 : ∀ σ H, D.bk σ H → D'.bk σ H) (h4 : ∀ σ H, D.ct σ H → D'.ct σ H) {f : Flow} {s' : Shared}
    (h : SP (X.wish E) pins D f s') : SP (X.wish E') pins D' f s' := by
  cases f with
  | next => obtain ⟨σ', H', I, q⟩ := h; exact ⟨σ', H', I.unwish.wish E', h1 _ _ q⟩
  | brk => obtain ⟨σ', H', I, q⟩ := h; exact ⟨σ', H', I.unwish.wish E', h3 _ _ q⟩
  | cont => obtain ⟨σ', H', I, q⟩ := h; exact ⟨σ', H', I.unwish.wish E', h4 _ _ q⟩
  | ret u => obtain ⟨v, σ', H', I, r, q⟩ := h; exact ⟨v, σ', H', I.unwish.wish E', r, h2 _ _ q⟩
theorem wS_mono {E E' : Value → Shared → Prop} {st : Stmt} {D D' : Ends} (h : wS (X.wish E) st D σ H) (h1 : ∀ σ H, D.nx σ H → D'.nx σ H) (h2 : ∀ v H, D.rt v H → D'.rt v H) (h3 : ∀ σ H, D.bk σ H → D'.bk σ H) (h4 : ∀ σ H, D.ct σ H → D'.ct σ H)
    (hE : ∀ u s', E u s' → E' u s') : wS (X.wish E') st D' σ H := .sh fun pins s I => wpAny_mono (h pins s (I.unwish.wish E)) (fun _ _ q => SP_mono h1 h2 h3 h4 q) hE
theorem wSs_mono {E E' : Value → Shared → Prop} {st : List Stmt} {D D' : Ends} (h : wSs (X.wish E) st D σ H) (h1 : ∀ σ H, D.nx σ H → D'.nx σ H) (h2 : ∀ v H, D.rt v H → D'.rt v H) (h3 : ∀ σ H, D.bk σ H → D'.bk σ H) (h4 : ∀ σ H, D.ct σ H → D'.ct σ H)
    (hE : ∀ u s', E u s' → E' u s') : wSs (X.wish E') st D' σ H := .sh fun pins s I => wpAny_mono (h pins s (I.unwish.wish E)) (fun _ _ q => SP_mono h1 h2 h3 h4 q) hE
/-- use of an expression's judgement within another -/
theorem SE.we {e : Expr} {m : ME} {α : Type} {r : R α} {Q : VK} (h : SE X e m) (c : Cfg X.K o σ H G own ρ) (nb : m ρ ≠ .bad) (hx : Xle (m ρ) r)
    (k : ∀ d ρ' v H' G' own', m ρ = .ok d ρ' → Cfg X.K o σ H' G' own' ρ' → Ext G G' → RV X.K G' d v → Q v H') : wE (Cx.to X o r) e σ H Q :=
  wE_mono (h o σ H G own ρ c nb) (fun v H' ⟨d, ρ', G', own', e, c', x, rv⟩ => k d ρ' v H' G' own' e c' x rv) fun u s' x => XE.imp (fun _ _ _ _ w => WO.imp hx w) x
theorem ST.we {e : Expr} {m : MT} {α : Type} {r : R α} {Q : Bool → Hp → Prop} (h : ST X e m) (c : Cfg X.K o σ H G own ρ) (nb : m ρ ≠ .bad) (hx : Xle (m ρ) r)
    (k : ∀ b ρ' H' G' own', m ρ = .ok b ρ' → Cfg X.K o σ H' G' own' ρ' → Ext G G' → Q b H') : wT (Cx.to X o r) e σ H Q :=
  wT_mono (h o σ H G own ρ c nb) (fun b H' ⟨ρ', G', own', e, c', x⟩ => k b ρ' H' G' own' e c' x) fun u s' x => XE.imp (fun _ _ _ _ w => WO.imp hx w) x
theorem SE.of {e : Expr} {m : ME} (h : ∀ o σ H G own ρ, Cfg X.K o σ H G own ρ → m ρ ≠ .bad → ∃ t, PE (Cx.to X o (m ρ)) e t ∧ t σ H (OkE X.K o σ G (m ρ))) : SE X e m := fun o σ H G own ρ c nb => .sh fun pins s I => by
  obtain ⟨t, ht, q⟩ := h o σ H G own ρ c nb
  exact ht.run pins s σ H _ I q
theorem ST.of {e : Expr} {m : MT} (h : ∀ o σ H G own ρ, Cfg X.K o σ H G own ρ → m ρ ≠ .bad → ∃ t, PT (Cx.to X o (m ρ)) e t ∧ t σ H (OkT X.K o σ G (m ρ))) : ST X e m := fun o σ H G own ρ c nb => .sh fun pins s I => by
  obtain ⟨t, ht, q⟩ := h o σ H G own ρ c nb
  exact ht.run pins s σ H _ I q
theorem SS.of {np : Nat} {st : Stmt} {m : MS} (h : ∀ o σ H G own ρ, o.vs.length = np → Cfg X.K o σ H G own ρ → m ρ ≠ .bad → ∃ t, PS (Cx.to X o (m ρ)) st t ∧ t (En X.K o (m ρ)) σ H) : SS X np st m := fun o σ H G own ρ hn c nb => .sh fun pins s I => by
  obtain ⟨t, ht, q⟩ := h o σ H G own ρ hn c nb
  exact ht.run pins s σ H _ I q
theorem SSs.of {np : Nat} {st : List Stmt} {m : MS} (h : ∀ o σ H G own ρ, o.vs.length = np → Cfg X.K o σ H G own ρ → m ρ ≠ .bad → ∃ t, PSs (Cx.to X o (m ρ)) st t ∧ t (En X.K o (m ρ)) σ H) : SSs X np st m := fun o σ H G own ρ hn c nb => .sh fun pins s I => by
  obtain ⟨t, ht, q⟩ := h o σ H G own ρ hn c nb
  exact ht.run pins s σ H _ I q
end
end DL

set_option maxRecDepth 100000
set_option maxHeartbeats 2000000
namespace DL
open PySem PySem.Spec L2
open PyProof.Rows hiding St

section
variable {K : PySem.W.Frag} {H G H' G' : Hp} {own own' : Own} {i j : Option Nat} {o : Orig} {σ : St} {ρ : Env} {a p : Addr} {u : HO}
/-! ### what is kept -/
theorem RF.move (hH : ∀ a t u, own a = some (i, t) → H a = some u → H' a = some u ∧ own' a = some (j, t)) (e : Ext G G') {t : Str} : ∀ {f : F} {v : V}, RF K H G own i t f v → RF K H' G' own' j t f v
  | .v d, v, h => RV.mono e d v h
  | .lst l, v, ⟨a, xs, h1, h2, h3, h4⟩ => ⟨a, xs, h1, (hH a _ _ h3 h2).1, (hH a _ _ h3 h2).2, RVs.mono e l xs h4⟩
  | .dic ks l, v, ⟨a, kvs, h1, h2, h3, h4, h5⟩ => ⟨a, kvs, h1, (hH a _ _ h3 h2).1, (hH a _ _ h3 h2).2, h4, RVs.mono e l _ h5⟩
theorem RFs.move (hH : ∀ a t u, own a = some (i, t) → H a = some u → H' a = some u ∧ own' a = some (j, t)) (e : Ext G G') : ∀ {ns : List Str} {fs : List F} {vf : List (Str × V)}, RFs K H G own i ns fs vf → RFs K H' G' own' j ns fs vf
  | [], [], [], _ => trivial
  | n :: ns, f :: fs, p :: r, ⟨h1, h2, h3⟩ => ⟨h1, RF.move hH e h2, RFs.move hH e h3⟩
theorem RC.move (hH : ∀ a t u, own a = some (i, t) → H a = some u → H' a = some u ∧ own' a = some (j, t)) (e : Ext G G') : ∀ {c : C} {v : V}, RC K H G own i c v → RC K H' G' own' j c v
  | .v d, v, h => RV.mono e d v h
  | .lst l, v, ⟨a, xs, h1, h2, h3, h4⟩ => ⟨a, xs, h1, (hH a _ _ h3 h2).1, (hH a _ _ h3 h2).2, RVs.mono e l xs h4⟩
  | .dic ks l, v, ⟨a, kvs, h1, h2, h3, h4, h5⟩ => ⟨a, kvs, h1, (hH a _ _ h3 h2).1, (hH a _ _ h3 h2).2, h4, RVs.mono e l _ h5⟩
  | .ins c ns fs, v, ⟨a, dx, vf, h1, h2, h3, h4, h5, h6, h7⟩ => ⟨a, dx, vf, h1, (hH a _ _ h4 h2).1, (hH dx _ _ h5 h3).1, (hH a _ _ h4 h2).2, (hH dx _ _ h5 h3).2, h6, RFs.move hH e h7⟩
theorem rd_some (h : Rd H a u) : H a ≠ none := by
  rcases h with h | ⟨o, h⟩ <;> rw [h] <;> simp
theorem Good.gnone (g : Good H G own) (h : H a = none) : G a = none := by
  cases e : G a with
  | none => rfl
  | some u => exact absurd h (rd_some (g.rd a u e))
theorem Good.onone (g : Good H G own) (h : H a = none) : own a = none := by
  cases e : own a with
  | none => rfl
  | some u => exact absurd h (g.live a (by rw [e]; simp))
theorem rd_keep (h : Rd H a u) (k : ∀ w, H a = some w → H' a = some w) : Rd H' a u := by
  rcases h with h | ⟨o, h⟩
  · exact .inl (k _ h)
  · exact .inr ⟨o, k _ h⟩
theorem there_of (hk : ∀ a u, H a = some u → H' a = some u) (h : H a ≠ none) : H' a ≠ none := by
  cases e : H a with
  | none => exact absurd e h
  | some u => rw [hk a u e]; simp
/-- the state changed so that what is ours and shared is kept -/
theorem Cfg.keep (c : Cfg K o σ H G own ρ) (hk : ∀ a u, H a = some u → H' a = some u) : Cfg K o σ H' G own ρ := by
  refine ⟨fun i c' h => ?_, ⟨fun a u h => rd_keep (c.good.rd a u h) (hk a), fun a ub hub h => hk _ _ (c.good.rdi a ub hub h), c.good.sep, fun a h => ?_⟩, ⟨fun a u h n => hk a u (c.stp.keep a u h n), c.stp.grow, c.stp.orig, c.stp.origG, fun a h => there_of hk (c.stp.there a h)⟩, c.pins⟩
  · obtain ⟨v, h1, h2⟩ := c.er i c' h
    exact ⟨v, h1, h2.move (fun a t u h3 h4 => ⟨hk a u h4, h3⟩) Ext.rfl'⟩
  · cases e : H a with
    | none => exact absurd e (c.good.live a h)
    | some w => rw [hk a w e]; simp
/-- a new object, shared at once -/
theorem Cfg.shared (c : Cfg K o σ H G own ρ) (hp : H p = none) : Cfg K o σ (upd H p u) (upd G p u) own ρ ∧ Ext G (upd G p u) := by
  have hg := c.good.gnone hp
  have ho := c.good.onone hp
  have e : Ext G (upd G p u) := Ext.upd hg
  have k : ∀ a w, H a = some w → upd H p u a = some w := fun a w h => by rw [upd_ne (ne_of_none h hp)]; exact h
  refine ⟨⟨fun i c' h => ?_, ⟨fun a w h => ?_, fun a ub hub h => ?_, fun a h => ?_, fun a h => ?_⟩, ⟨fun a w h n => k a w (c.stp.keep a w h n), c.stp.grow.trans e, c.stp.orig, fun a h => ?_, fun a h => there_of k (c.stp.there a h)⟩, c.pins⟩, e⟩
  · obtain ⟨v, h1, h2⟩ := c.er i c' h
    exact ⟨v, h1, h2.move (fun a t w h3 h4 => ⟨k a w h4, h3⟩) e⟩
  · by_cases ha : a = p
    · subst ha
      rw [upd_same] at h
      exact .inl (by rw [upd_same]; exact h)
    · rw [upd_ne ha] at h
      exact rd_keep (c.good.rd a w h) (k a)
  · by_cases ha : a = p
    · subst ha
      rw [upd_same] at h ⊢
      exact h
    · rw [upd_ne ha] at h
      exact k _ _ (c.good.rdi a ub hub h)
  · by_cases ha : a = p
    · rw [ha]; exact ho
    · rw [upd_ne ha] at h
      exact c.good.sep a h
  · cases e : H a with
    | none => exact absurd e (c.good.live a h)
    | some w => rw [k a w e]; simp
  · by_cases ha : a = p
    · subst ha
      cases e : o.H a with
      | none => exact .inr (.inr rfl)
      | some w =>
        cases e2 : o.own a with
        | some y => exact .inr (.inl (by simp))
        | none => rw [c.stp.keep a w e e2] at hp; cases hp
    · rw [upd_ne ha] at h
      exact c.stp.origG a h
/-- a new object, the value at hand's own -/
def mark (own : Own) (p : Addr) (l : Option (Option Nat × Option Str)) : Own := fun a => if a = p then l else own a
theorem mark_same {l : Option (Option Nat × Option Str)} : mark own p l p = l := if_pos rfl
theorem mark_ne {l : Option (Option Nat × Option Str)} (h : a ≠ p) : mark own p l a = own a := if_neg h
theorem Cfg.owned (c : Cfg K o σ H G own ρ) (hp : H p = none) (l : Option Nat × Option Str) : Cfg K o σ (upd H p u) G (mark own p (some l)) ρ := by
  have hg := c.good.gnone hp
  have ho := c.good.onone hp
  have k : ∀ a w, H a = some w → upd H p u a = some w := fun a w h => by rw [upd_ne (ne_of_none h hp)]; exact h
  refine ⟨fun i c' h => ?_, ⟨fun a w h => rd_keep (c.good.rd a w h) (k a), fun a ub hub h => k _ _ (c.good.rdi a ub hub h), fun a h => ?_, fun a h => ?_⟩, ⟨fun a w h n => k a w (c.stp.keep a w h n), c.stp.grow, fun a h => ?_, c.stp.origG, fun a h => there_of k (c.stp.there a h)⟩, c.pins⟩
  · obtain ⟨v, h1, h2⟩ := c.er i c' h
    refine ⟨v, h1, h2.move (fun a t w h3 h4 => ⟨k a w h4, ?_⟩) Ext.rfl'⟩
    rw [mark_ne (ne_of_none h4 hp)]; exact h3
  · have ha : a ≠ p := fun z => by rw [z, hg] at h; exact h rfl
    rw [mark_ne ha]; exact c.good.sep a h
  · by_cases ha : a = p
    · subst ha; rw [upd_same]; simp
    · rw [mark_ne ha] at h
      cases e : H a with
      | none => exact absurd e (c.good.live a h)
      | some w => rw [k a w e]; simp
  · by_cases ha : a = p
    · subst ha
      cases e : o.H a with
      | none => exact .inr rfl
      | some w =>
        cases e2 : o.own a with
        | some y => exact .inl (by simp)
        | none => rw [c.stp.keep a w e e2] at hp; cases hp
    · rw [mark_ne ha] at h
      exact c.stp.orig a h
/-- an object at hand is shared from now on -/
theorem Cfg.freeze (c : Cfg K o σ H G own ρ) {t : Option Str} (ha : own a = some (none, t)) (hu : H a = some u) : Cfg K o σ H (upd G a u) (mark own a none) ρ ∧ Ext G (upd G a u) := by
  have hg : G a = none := by
    cases e : G a with
    | none => rfl
    | some w =>
      have := c.good.sep a (by rw [e]; simp)
      rw [ha] at this; cases this
  have e : Ext G (upd G a u) := Ext.upd hg
  refine ⟨⟨fun i c' h => ?_, ⟨fun b w h => ?_, fun b ub hub h => ?_, fun b h => ?_, fun b h => ?_⟩, ⟨c.stp.keep, c.stp.grow.trans e, fun b h => ?_, fun b h => ?_, c.stp.there⟩, c.pins⟩, e⟩
  · obtain ⟨v, h1, h2⟩ := c.er i c' h
    refine ⟨v, h1, h2.move (fun b s w h3 h4 => ⟨h4, ?_⟩) e⟩
    have : b ≠ a := fun z => by subst z; rw [ha] at h3; cases h3
    rw [mark_ne this]; exact h3
  · by_cases hb : b = a
    · subst hb
      rw [upd_same] at h
      cases h
      exact .inl hu
    · rw [upd_ne hb] at h
      exact c.good.rd b w h
  · by_cases hb : b = a
    · subst hb
      rw [upd_same] at h
      cases h
      exact hu
    · rw [upd_ne hb] at h
      exact c.good.rdi b ub hub h
  · by_cases hb : b = a
    · rw [hb, mark_same]
    · rw [upd_ne hb] at h
      rw [mark_ne hb]; exact c.good.sep b h
  · have hb : b ≠ a := fun z => by rw [z, mark_same] at h; exact h rfl
    rw [mark_ne hb] at h
    exact c.good.live b h
  · have hb : b ≠ a := fun z => by rw [z, mark_same] at h; exact h rfl
    rw [mark_ne hb] at h
    exact c.stp.orig b h
  · by_cases hb : b = a
    · subst hb
      exact .inr (c.stp.orig b (by rw [ha]; simp))
    · rw [upd_ne hb] at h
      exact c.stp.origG b h
/-- an object of ours is written -/
theorem Cfg.write (c : Cfg K o σ H G own ρ) {l : Option Nat × Option Str} (ha : own a = some l) (ρ' : Env)
    (er : ∀ (i : Nat) (c' : C), ρ'[i]? = some (some c') → ∃ v, σ[i]? = some (some v) ∧ RC K (upd H a u) G own (some i) c' v) : Cfg K o σ (upd H a u) G own ρ' := by
  have hg : G a = none := by
    cases e : G a with
    | none => rfl
    | some w =>
      have := c.good.sep a (by rw [e]; simp)
      rw [ha] at this; cases this
  have k : ∀ b w, b ≠ a → H b = some w → upd H a u b = some w := fun b w hb h => by rw [upd_ne hb]; exact h
  refine ⟨er, ⟨fun b w h => rd_keep (c.good.rd b w h) fun w' h' => k b w' (fun z => by rw [z, hg] at h; cases h) h', fun b ub hub h => k b _ (fun z => by rw [z, hg] at h; cases h) (c.good.rdi b ub hub h), c.good.sep, fun b h => ?_⟩, ⟨fun b w h n => ?_, c.stp.grow, c.stp.orig, c.stp.origG, fun b h => ?_⟩, c.pins⟩
  · by_cases hb : b = a
    · subst hb; rw [upd_same]; simp
    · rw [upd_ne hb]; exact c.good.live b h
  · by_cases hb : b = a
    · subst hb
      have q := c.stp.orig b (by rw [ha]; simp)
      rcases q with q | q
      · exact absurd n q
      · rw [h] at q; cases q
    · exact k b w hb (c.stp.keep b w h n)
  · have q := c.stp.there b h
    by_cases hb : b = a
    · subst hb; rw [upd_same]; simp
    · rw [upd_ne hb]; exact q
/-- what is not at a is kept when a is written -/
theorem RC.apart {l : Option Nat × Option Str} (ha : own a = some l) {c : C} {v : V} (hl : l.1 ≠ i) (h : RC K H G own i c v) : RC K (upd H a u) G own i c v :=
  h.move (fun b t w h1 h2 => ⟨by
    have : b ≠ a := fun z => by subst z; rw [ha] at h1; cases h1; exact hl rfl
    rw [upd_ne this]; exact h2, h1⟩) Ext.rfl'
/-- a shared value into a slot -/
theorem Cfg.setv (c : Cfg K o σ H G own ρ) {k : Nat} {v : V} {d : D} (hk : o.vs.length ≤ k) (hl : k < σ.length) (h : RV K G d v) : Cfg K o (σ.set k (some v)) H G own (ρ.set k (some (.v d))) := by
  refine ⟨fun i c' e => ?_, c.good, c.stp, fun j w e => ?_⟩
  · by_cases hi : i = k
    · subst hi
      have hlt : i < ρ.length := by
        by_cases z : i < ρ.length
        · exact z
        · rw [List.getElem?_eq_none (by simp; omega)] at e; cases e
      rw [List.getElem?_set_self hlt] at e
      cases e
      exact ⟨v, by rw [List.getElem?_set_self hl], h⟩
    · rw [List.getElem?_set_ne (Ne.symm hi)] at e ⊢
      exact c.er i c' e
  · have hj : j < o.vs.length := (List.getElem?_eq_some_iff.mp e).1
    rw [List.getElem?_set_ne (by omega)]
    exact c.pins j w e
/-- labels: the value at hand is slot k's from now on -/
def take (own : Own) (k : Nat) : Own := fun a => match own a with
  | some (none, t) => some (some k, t)
  | some (some j, t) => if j = k then none else some (some j, t)
  | none => none
theorem Cfg.seto (c : Cfg K o σ H G own ρ) {k : Nat} {v : V} {d : C} (hk : o.vs.length ≤ k) (hl : k < σ.length) (h : RC K H G own none d v) : Cfg K o (σ.set k (some v)) H G (take own k) (ρ.set k (some d)) := by
  have tn : ∀ a, take own k a ≠ none → own a ≠ none := fun a h z => by
    unfold take at h; rw [z] at h; exact h rfl
  refine ⟨fun i c' e => ?_, ⟨c.good.rd, c.good.rdi, fun a h => ?_, fun a h => c.good.live a (tn a h)⟩, ⟨c.stp.keep, c.stp.grow, fun a h => c.stp.orig a (tn a h), c.stp.origG, c.stp.there⟩, fun j w e => ?_⟩
  · by_cases hi : i = k
    · subst hi
      have hlt : i < ρ.length := by
        by_cases z : i < ρ.length
        · exact z
        · rw [List.getElem?_eq_none (by simp; omega)] at e; cases e
      rw [List.getElem?_set_self hlt] at e
      cases e
      refine ⟨v, by rw [List.getElem?_set_self hl], h.move (fun a t w h1 h2 => ⟨h2, ?_⟩) Ext.rfl'⟩
      unfold take; rw [h1]
    · rw [List.getElem?_set_ne (Ne.symm hi)] at e ⊢
      obtain ⟨w, h1, h2⟩ := c.er i c' e
      refine ⟨w, h1, h2.move (fun a t w h1 h2 => ⟨h2, ?_⟩) Ext.rfl'⟩
      unfold take; rw [h1]
      simp [hi]
  · have q := c.good.sep a h
    unfold take; rw [q]
  · have hj : j < o.vs.length := (List.getElem?_eq_some_iff.mp e).1
    rw [List.getElem?_set_ne (by omega)]
    exact c.pins j w e
/-- slot k's content is at hand (a return) -/
def give (own : Own) (k : Nat) : Own := fun a => match own a with
  | some (none, _) => none
  | some (some j, t) => if j = k then some (none, t) else some (some j, t)
  | none => none
theorem Cfg.giveo (c : Cfg K o σ H G own ρ) {k n : Nat} {v : V} {d : C} (hk : n ≤ k) (h : RC K H G own (some k) d v) : Cfg K o σ H G (give own k) (ρ.take n) ∧ RC K H G (give own k) none d v := by
  have tn : ∀ a, give own k a ≠ none → own a ≠ none := fun a h z => by
    unfold give at h; rw [z] at h; exact h rfl
  refine ⟨⟨fun i c' e => ?_, ⟨c.good.rd, c.good.rdi, fun a h => ?_, fun a h => c.good.live a (tn a h)⟩, ⟨c.stp.keep, c.stp.grow, fun a h => c.stp.orig a (tn a h), c.stp.origG, c.stp.there⟩, c.pins⟩, h.move (fun a t w h1 h2 => ⟨h2, ?_⟩) Ext.rfl'⟩
  · rw [List.getElem?_take] at e
    split at e
    · rename_i hi
      obtain ⟨w, h1, h2⟩ := c.er i c' e
      refine ⟨w, h1, h2.move (fun a t w h1 h2 => ⟨h2, ?_⟩) Ext.rfl'⟩
      unfold give; rw [h1]
      have : i ≠ k := by omega
      simp [this]
    · cases e
  · have q := c.good.sep a h
    unfold give; rw [q]
  · unfold give; rw [h1]; simp
/-- less is known of the slots -/
theorem Cfg.forget (c : Cfg K o σ H G own ρ) (ρ' : Env) (h : ∀ (i : Nat) (c' : C), ρ'[i]? = some (some c') → ρ[i]? = some (some c')) : Cfg K o σ H G own ρ' := ⟨fun i c' e => c.er i c' (h i c' e), c.good, c.stp, c.pins⟩
theorem take_some {n i : Nat} {c : C} (e : (ρ.take n)[i]? = some (some c)) : ρ[i]? = some (some c) ∧ i < n := by
  rw [List.getElem?_take] at e
  split at e
  · rename_i h; exact ⟨e, h⟩
  · cases e
theorem RV.tup_inv {l : List D} {v : V} (h : RV K G (.tup l) v) : ∃ a xs, v = .ref a ∧ TupAt K G a xs ∧ RVs K G l xs := by unfold RV at h; exact h
theorem RV.lst_inv {l : List D} {v : V} (h : RV K G (.lst l) v) : ∃ a xs, v = .ref a ∧ G a = some (.lst xs) ∧ RVs K G l xs := by unfold RV at h; exact h
theorem RV.dic_inv {ks : List Key} {l : List D} {v : V} (h : RV K G (.dic ks l) v) : ∃ a kvs, v = .ref a ∧ G a = some (.dK kvs) ∧ kvs.map (·.1) = ks ∧ RVs K G l (kvs.map (·.2)) := by unfold RV at h; exact h
theorem RV.ins_inv {cl : Addr} {ns : List Str} {l : List D} {v : V} (h : RV K G (.ins cl ns l) v) : ∃ a dx fs, v = .ref a ∧ G a = some (.ins cl dx fs) ∧ G dx = some (.own a) ∧ fs.map (·.1) = ns ∧ RVs K G l (fs.map (·.2)) := by unfold RV at h; exact h
theorem RV.int_inv {i : Int} {v : V} (h : RV K G (.int i) v) : v = .int i := by unfold RV at h; exact h
theorem RV.bl_inv {i : Bool} {v : V} (h : RV K G (.bl i) v) : v = .bl i := by unfold RV at h; exact h
theorem RV.str_inv {i : Str} {v : V} (h : RV K G (.str i) v) : v = .str i := by unfold RV at h; exact h
theorem RV.non_inv {v : V} (h : RV K G .non v) : v = .non := by unfold RV at h; exact h
theorem rv_int {i : Int} : RV K G (.int i) (.int i) := by unfold RV; rfl
theorem rv_bl {i : Bool} : RV K G (.bl i) (.bl i) := by unfold RV; rfl
theorem rv_str {i : Str} : RV K G (.str i) (.str i) := by unfold RV; rfl
theorem rv_non : RV K G .non .non := by unfold RV; rfl
theorem rv_tup {l : List D} {a : Addr} {xs : List V} (h : TupAt K G a xs) (t : RVs K G l xs) : RV K G (.tup l) (.ref a) := by unfold RV; exact ⟨a, xs, rfl, h, t⟩
theorem rv_lst {l : List D} {a : Addr} {xs : List V} (h : G a = some (.lst xs)) (t : RVs K G l xs) : RV K G (.lst l) (.ref a) := by unfold RV; exact ⟨a, xs, rfl, h, t⟩
theorem Good.tup (g : Good H G own) {xs : List V} (h : TupAt K G a xs) : SqT K H a xs := by
  rcases h with ⟨o, _, h⟩ | ⟨o, its, n, h1, h2, h3, h4, h5, _⟩
  · exact .inl (.inr ⟨o, g.rdi a _ (.pt o xs) h⟩)
  · exact .inr ⟨o, its, n, h1, h2, h3, h4, h5⟩
theorem Good.lst (g : Good H G own) {xs : List V} (h : G a = some (.lst xs)) : SqL K H a xs := .inl (g.rd a _ h)
end

/-! ### frozen data of a content -/
def F.frz : F → D
  | .v d => d
  | .lst l => .lst l
  | .dic ks vs => .dic ks vs
def C.frz : C → D
  | .v d => d
  | .lst l => .lst l
  | .dic ks vs => .dic ks vs
  | .ins c ns fs => .ins c ns (fs.map F.frz)
section
variable {K : PySem.W.Frag} {H G H' G' : Hp} {own own' : Own} {o : Orig} {σ : St} {ρ : Env} {a p : Addr} {u : HO}
theorem rfs_freeze : ∀ {ns : List Str} {fs : List F} {vf : List (Str × V)} {G : Hp} {own : Own}, Cfg K o σ H G own ρ → RFs K H G own none ns fs vf → ns.Nodup →
    ∃ G' own', Cfg K o σ H G' own' ρ ∧ Ext G G' ∧ (∀ b t, own b = some (none, t) → (∀ s, t = some s → s ∉ ns) → own' b = own b) ∧ vf.map (·.1) = ns ∧ RVs K G' (fs.map F.frz) (vf.map (·.2))
  | [], [], [], G, own, c, _, _ => ⟨G, own, c, Ext.rfl', fun _ _ _ _ => rfl, rfl, .nil⟩
  | n :: ns, f :: fs, p :: r, G, own, c, ⟨h1, h2, h3⟩, nd => by
    obtain ⟨nn, nd'⟩ := List.nodup_cons.mp nd
    obtain ⟨G1, own1, c1, e1, k1, m1, r1⟩ := rfs_freeze c h3 nd'
    cases f with
    | v d =>
      exact ⟨G1, own1, c1, e1, fun b t hb ht => k1 b t hb fun s e => fun z => ht s e (List.mem_cons_of_mem _ z), by simp [h1, m1], .cons (RV.mono e1 _ _ h2) r1⟩
    | lst l =>
      obtain ⟨a, xs, h4, h5, h6, h7⟩ := h2
      have h6' : own1 a = some (none, some n) := by rw [k1 a _ h6 fun s e z => nn (Option.some.inj e ▸ z)]; exact h6
      obtain ⟨c2, e2⟩ := c1.freeze h6' h5
      refine ⟨_, _, c2, e1.trans e2, fun b t hb ht => ?_, by simp [h1, m1], .cons ?_ (RVs.mono e2 _ _ r1)⟩
      · have hba : b ≠ a := fun z => by subst z; rw [h6] at hb; cases hb; exact ht n rfl List.mem_cons_self
        rw [mark_ne hba]
        exact k1 b t hb fun s e => fun z => ht s e (List.mem_cons_of_mem _ z)
      · show RV K _ (.lst l) p.2
        rw [h4]
        exact rv_lst (by rw [upd_same]) (RVs.mono (e1.trans e2) _ _ h7)
    | dic ks l =>
      obtain ⟨a, kvs, h4, h5, h6, h7, h8⟩ := h2
      have h6' : own1 a = some (none, some n) := by rw [k1 a _ h6 fun s e z => nn (Option.some.inj e ▸ z)]; exact h6
      obtain ⟨c2, e2⟩ := c1.freeze h6' h5
      refine ⟨_, _, c2, e1.trans e2, fun b t hb ht => ?_, by simp [h1, m1], .cons ?_ (RVs.mono e2 _ _ r1)⟩
      · have hba : b ≠ a := fun z => by subst z; rw [h6] at hb; cases hb; exact ht n rfl List.mem_cons_self
        rw [mark_ne hba]
        exact k1 b t hb fun s e => fun z => ht s e (List.mem_cons_of_mem _ z)
      · show RV K _ (.dic ks l) p.2
        unfold RV
        exact ⟨a, kvs, h4, by rw [upd_same], h7, RVs.mono (e1.trans e2) _ _ h8⟩
/-- the content at hand is shared from now on -/
theorem Cfg.frz (c : Cfg K o σ H G own ρ) {d : C} {v : V} (h : RC K H G own none d v) : ∃ G' own', Cfg K o σ H G' own' ρ ∧ Ext G G' ∧ RV K G' d.frz v := by
  cases d with
  | v d => exact ⟨G, own, c, Ext.rfl', h⟩
  | lst l =>
    obtain ⟨a, xs, h1, h2, h3, h4⟩ := h
    obtain ⟨c2, e2⟩ := c.freeze h3 h2
    exact ⟨_, _, c2, e2, by rw [h1]; exact rv_lst (by rw [upd_same]) (RVs.mono e2 _ _ h4)⟩
  | dic ks l =>
    obtain ⟨a, kvs, h1, h2, h3, h4, h5⟩ := h
    obtain ⟨c2, e2⟩ := c.freeze h3 h2
    refine ⟨_, _, c2, e2, ?_⟩
    show RV K _ (.dic ks l) v
    unfold RV
    exact ⟨a, kvs, h1, by rw [upd_same], h4, RVs.mono e2 _ _ h5⟩
  | ins cl ns fs =>
    obtain ⟨a, dx, vf, h1, h2, h3, h4, h5, h6, h7⟩ := h
    obtain ⟨G1, own1, c1, e1, k1, m1, r1⟩ := rfs_freeze c h7 h6
    have ka := k1 a none h4 (fun s e => nomatch e)
    have kd := k1 dx none h5 (fun s e => nomatch e)
    have had : dx ≠ a := fun z => by rw [z, h2] at h3; cases h3
    obtain ⟨c2, e2⟩ := c1.freeze (ka.trans h4) h2
    obtain ⟨c3, e3⟩ := c2.freeze (a := dx) (t := none) (by rw [mark_ne had, kd]; exact h5) h3
    refine ⟨_, _, c3, (e1.trans e2).trans e3, ?_⟩
    show RV K _ (.ins cl ns (fs.map F.frz)) v
    unfold RV
    refine ⟨a, dx, vf, h1, ?_, by rw [upd_same], m1, RVs.mono (e2.trans e3) _ _ r1⟩
    rw [upd_ne (Ne.symm had), upd_same]
end
end DL

set_option maxRecDepth 100000
set_option maxHeartbeats 2000000
namespace DL
open PySem PySem.Spec L2
open PyProof.Rows hiding St

/-- a value d where the state may have grown -/
def OkD (K : PySem.W.Frag) (o : Orig) (σ : St) (ρ : Env) (G : Hp) (d : D) : VK := fun z H' => ∃ G' own', Cfg K o σ H' G' own' ρ ∧ Ext G G' ∧ RV K G' d z
section
variable {K : PySem.W.Frag} {H G H' G' : Hp} {own own' : Own} {o : Orig} {σ : St} {ρ : Env} {d : D} {v : V} {p : Addr} {u : HO}
theorem okd_pure (c : Cfg K o σ H G own ρ) (h : RV K G d v) : OkD K o σ ρ G d v H := ⟨G, own, c, Ext.rfl', h⟩
theorem okd_new (c : Cfg K o σ H G own ρ) (hp : H p = none) (h : RV K (upd G p u) d (.ref p)) : OkD K o σ ρ G d (.ref p) (upd H p u) := by
  obtain ⟨c', e⟩ := c.shared (u := u) hp
  exact ⟨_, _, c', e, h⟩
theorem okd_lst (c : Cfg K o σ H G own ρ) {l : List D} {xs : List V} (h : RVs K G l xs) (hp : H p = none) : OkD K o σ ρ G (.lst l) (.ref p) (upd H p (.lst xs)) :=
  okd_new c hp (rv_lst (by rw [upd_same]) (RVs.mono (Ext.upd (c.good.gnone hp)) _ _ h))
theorem okd_tup (c : Cfg K o σ H G own ρ) {l : List D} {xs : List V} (h : RVs K G l xs) (hp : H p = none) {ob : Obj} (hd : ob.dict = none) : OkD K o σ ρ G (.tup l) (.ref p) (upd H p (.frz ob (.tup xs))) :=
  okd_new c hp (rv_tup (.inl ⟨ob, hd, by rw [upd_same]⟩) (RVs.mono (Ext.upd (c.good.gnone hp)) _ _ h))
end

/-- an operator by data -/
def OpX (X : Cx) (f : Value → Value → Sem Value) (fd : D → D → Option D) : Prop :=
  ∀ (E : Value → Shared → Prop) o σ H G own ρ dx dy d x y, Cfg X.K o σ H G own ρ → RV X.K G dx x → RV X.K G dy y → fd dx dy = some d → ∃ r, OpR (X.wish E) f r ∧ r x y H (OkD X.K o σ ρ G d)

def addD : D → D → Option D
  | .int i, .int j => some (.int (i + j))
  | .str a, .str b => if a.length + b.length ≤ sizeLine then some (.str (a ++ b)) else none
  | .tup a, .tup b => if a.length + b.length ≤ sizeLine then some (.tup (a ++ b)) else none
  | .lst a, .lst b => if a.length + b.length ≤ sizeLine then some (.lst (a ++ b)) else none
  | _, _ => none
def subD : D → D → Option D
  | .int i, .int j => some (.int (i - j))
  | _, _ => none
instance {i j : Int} : Decidable (CMul i j) := by unfold CMul; infer_instance
instance {i j : Int} : Decidable (CDiv i j) := by unfold CDiv; infer_instance
instance {i j : Int} : Decidable (CPow i j) := by unfold CPow; infer_instance
def repS (x : Str) (n : Nat) : Str := ⟨(List.replicate n x.cps).foldl (· ++ ·) #[]⟩
def mulD : D → D → Option D
  | .int i, .int j => if CMul i j then some (.int (i * j)) else none
  | .tup l, .int k => if l ≠ [] ∧ 2 ≤ k ∧ k ≤ 1000 ∧ l.length ≤ 1000 then some (.tup (List.replicate k.toNat l).flatten) else none
  | .str x, .int k => if 1 ≤ k ∧ k ≤ 1000 ∧ x.length ≤ 1000 ∧ x.length ≠ 0 then some (.str (if k = 1 then x else repS x k.toNat)) else none
  | _, _ => none
def divD : D → D → Option D
  | .int i, .int j => if CDiv i j then some (.int (i / j)) else none
  | _, _ => none
def modD : D → D → Option D
  | .int i, .int j => if 0 < j then some (.int (i % j)) else none
  | _, _ => none
def powD : D → D → Option D
  | .int i, .int j => if CPow i j then some (.int (i ^ j.toNat)) else none
  | _, _ => none

theorem op_catR {X : Cx} : OpR X (binaryOp .Add) (fun x y H Q => ∃ l b xs zs, x = .ref l ∧ y = .ref b ∧ Rd H l (.lst xs) ∧ Rd H b (.lst zs) ∧ xs.length + zs.length ≤ sizeLine ∧ ∀ p, H p = none → Q (.ref p) (upd H p (.lst (xs ++ zs)))) := by
  intro pins s σ H x y v u Q I rx ry h
  obtain ⟨l, b, xs, zs, rfl, rfl, hH, hB, hz, q⟩ := h
  cases rx
  cases ry
  obtain ⟨z, its, n, r, e⟩ := hH.ok I.hok
  obtain ⟨z2, its2, n2, r2, e2⟩ := hB.ok I.hok
  have hl := r.length
  have hl2 := r2.length
  refine PySem.P.add_list e e2 ?_ (by rw [List.size_toArray, List.size_toArray]; omega)
  have ea : its.toArray ++ its2.toArray = (its ++ its2).toArray := by simp
  rw [ea]
  exact ⟨.ref _, _, I.lnew (t' := s.toks) (r.append r2) (by rw [List.length_append]; omega), rfl, q _ I.fresh⟩
theorem RVs.nil_iff {K : PySem.W.Frag} {G : Hp} {l : List D} {xs : List V} (h : RVs K G l xs) : l = [] ↔ xs = [] := by
  have := h.length
  cases l <;> cases xs <;> simp at this ⊢
section
variable {X : Cx}
theorem opx_add : OpX X (binaryOp .Add) addD := by
  intro E o σ H G own ρ dx dy d x y c hx hy h
  unfold addD at h
  split at h
  · cases h
    obtain rfl := hx.int_inv
    obtain rfl := hy.int_inv
    exact ⟨_, op_add, _, _, rfl, rfl, okd_pure c rv_int⟩
  · split at h
    · rename_i hz
      cases h
      obtain rfl := hx.str_inv
      obtain rfl := hy.str_inv
      exact ⟨_, op_add_str, _, _, rfl, rfl, hz, okd_pure c rv_str⟩
    · cases h
  · split at h
    · rename_i la lb hz
      cases h
      obtain ⟨a, xs, rfl, ha, hxs⟩ := hx.tup_inv
      obtain ⟨b, ys, rfl, hb, hys⟩ := hy.tup_inv
      have e1 := hxs.length
      have e2 := hys.length
      refine ⟨_, op_catP (X := X.wish E), a, b, xs, ys, rfl, rfl, c.good.tup ha, c.good.tup hb, by omega, fun z => ?_, fun z z2 => ?_, fun z z2 p ob hp ho => ?_⟩
      · have : la = [] := hxs.nil_iff.mpr z
        subst this
        exact okd_pure c hy
      · have : lb = [] := hys.nil_iff.mpr z2
        subst this
        rw [List.append_nil]
        exact okd_pure c hx
      · exact okd_tup c (hxs.append hys) hp ho
    · cases h
  · split at h
    · rename_i la lb hz
      cases h
      obtain ⟨a, xs, rfl, ha, hxs⟩ := hx.lst_inv
      obtain ⟨b, ys, rfl, hb, hys⟩ := hy.lst_inv
      have e1 := hxs.length
      have e2 := hys.length
      exact ⟨_, op_catR, a, b, xs, ys, rfl, rfl, c.good.rd _ _ ha, c.good.rd _ _ hb, by omega, fun p hp => okd_lst c (hxs.append hys) hp⟩
    · cases h
  · cases h
theorem opx_sub : OpX X (binaryOp .Sub) subD := by
  intro E o σ H G own ρ dx dy d x y c hx hy h
  unfold subD at h
  split at h
  · cases h
    obtain rfl := hx.int_inv
    obtain rfl := hy.int_inv
    exact ⟨_, op_sub, _, _, rfl, rfl, okd_pure c rv_int⟩
  · cases h
theorem opx_div : OpX X (binaryOp .FloorDiv) divD := by
  intro E o σ H G own ρ dx dy d x y c hx hy h
  unfold divD at h
  split at h
  · split at h
    · rename_i hz
      cases h
      obtain rfl := hx.int_inv
      obtain rfl := hy.int_inv
      exact ⟨_, op_fdiv, _, _, rfl, rfl, hz, okd_pure c rv_int⟩
    · cases h
  · cases h
theorem opx_mod : OpX X (binaryOp .Mod) modD := by
  intro E o σ H G own ρ dx dy d x y c hx hy h
  unfold modD at h
  split at h
  · split at h
    · rename_i hz
      cases h
      obtain rfl := hx.int_inv
      obtain rfl := hy.int_inv
      exact ⟨_, op_mod, _, _, rfl, rfl, hz, okd_pure c rv_int⟩
    · cases h
  · cases h
theorem opx_pow : OpX X (binaryOp .Pow) powD := by
  intro E o σ H G own ρ dx dy d x y c hx hy h
  unfold powD at h
  split at h
  · split at h
    · rename_i hz
      cases h
      obtain rfl := hx.int_inv
      obtain rfl := hy.int_inv
      exact ⟨_, op_pow, _, _, rfl, rfl, hz, okd_pure c rv_int⟩
    · cases h
  · cases h
theorem RVs.flat {K : PySem.W.Frag} {G : Hp} {l : List D} {xs : List V} (h : RVs K G l xs) : ∀ n : Nat, RVs K G (List.replicate n l).flatten (List.replicate n xs).flatten
  | 0 => by simp; exact .nil
  | n + 1 => by
    rw [List.replicate_succ, List.replicate_succ, List.flatten_cons, List.flatten_cons]
    exact h.append (RVs.flat h n)
theorem size_fold (a : Array Nat) : ∀ (n : Nat) (acc : Array Nat), ((List.replicate n a).foldl (· ++ ·) acc).size = acc.size + n * a.size
  | 0, acc => by simp
  | n + 1, acc => by
    rw [List.replicate_succ, List.foldl_cons, size_fold a n, Array.size_append, Nat.add_mul, Nat.one_mul]
    omega
theorem op_repS {X : Cx} : OpR X (binaryOp .Mult) (fun x y H Q => ∃ (z : Str) (k : Int), x = .str z ∧ y = .int k ∧ 1 ≤ k ∧ k ≤ 1000 ∧ z.length ≤ 1000 ∧ z.length ≠ 0 ∧ Q (.str (if k = 1 then z else repS z k.toNat)) H) := by
  intro pins s σ H x y v u Q I rx ry h
  obtain ⟨z, k, rfl, rfl, h1, h2, h3, h4, q⟩ := h
  obtain ⟨t, rfl⟩ := rx
  obtain ⟨t', rfl⟩ := ry
  have hlen : z.length * k.toNat ≤ 1000000 := Nat.le_trans (Nat.mul_le_mul h3 (by omega : k.toNat ≤ 1000)) (by decide)
  refine PySem.P.mul_str ?_ (fun _ _ => ?_) (fun _ _ => ?_) ?_
  · have e1 : decide (k < -(2 ^ 63 : Int)) = false := decide_eq_false (by omega)
    have e2 : decide (k ≥ (2 : Int) ^ 63) = false := decide_eq_false (by omega)
    rw [e1, e2]; rfl
  · have : (1000 : Int) ≤ (2 ^ 63 - 1) / k := (Int.le_ediv_iff_mul_le (by omega)).mpr (by omega)
    omega
  · have hs : sizeLine = 16777216 := sizeLine_eq
    exact decide_eq_false (by omega)
  · rw [if_neg (by omega : ¬ k < 1)]
    by_cases hk : k = 1
    · subst hk
      rw [if_pos rfl] at q
      have : ((1 : Int) == 1 || z.length == 0) = true := by simp
      rw [if_pos this]
      exact ⟨.str z, H, I, ⟨_, rfl⟩, q⟩
    · rw [if_neg hk] at q
      have hb : (k == 1 || z.length == 0) = false := by
        have a1 : (k == 1) = false := beq_eq_false_iff_ne.mpr hk
        have a2 : (z.length == 0) = false := beq_eq_false_iff_ne.mpr h4
        rw [a1, a2]; rfl
      rw [if_neg (by rw [hb]; simp)]
      have hs : sizeLine = 16777216 := sizeLine_eq
      have hsz : (repS z k.toNat).cps.size = k.toNat * z.cps.size := by
        show ((List.replicate k.toNat z.cps).foldl (· ++ ·) #[]).size = _
        rw [size_fold]; simp
      refine ⟨?_, ⟨.str _, H, I.tok _, ⟨_, rfl⟩, q⟩⟩
      show (repS z k.toNat).cps.size ≤ _
      have hlen' : k.toNat * z.cps.size ≤ 1000000 := by rw [Nat.mul_comm]; exact hlen
      rw [hsz]
      omega
theorem opx_mul : OpX X (binaryOp .Mult) mulD := by
  intro E o σ H G own ρ dx dy d x y c hx hy h
  unfold mulD at h
  split at h
  · split at h
    · rename_i hz
      cases h
      obtain rfl := hx.int_inv
      obtain rfl := hy.int_inv
      exact ⟨_, op_mul, _, _, rfl, rfl, hz, okd_pure c rv_int⟩
    · cases h
  · split at h
    · rename_i hz
      cases h
      obtain ⟨h1, h2, h3, h4⟩ := hz
      obtain ⟨a, xs, rfl, ha, hxs⟩ := hx.tup_inv
      obtain rfl := hy.int_inv
      have e1 := hxs.length
      exact ⟨_, op_repP (X := X.wish E), a, _, xs, rfl, rfl, c.good.tup ha, fun z => h1 (hxs.nil_iff.mpr z), h2, h3, by omega, fun p ob hp ho => okd_tup c (hxs.flat _) hp ho⟩
    · cases h
  · split at h
    · rename_i hz
      cases h
      obtain ⟨h1, h2, h3, h4⟩ := hz
      obtain rfl := hx.str_inv
      obtain rfl := hy.int_inv
      exact ⟨_, op_repS, _, _, rfl, rfl, h1, h2, h3, h4, okd_pure c rv_str⟩
    · cases h
  · cases h
end
end DL

set_option maxRecDepth 100000
set_option maxHeartbeats 2000000
namespace DL
open PySem PySem.Spec L2
open PyProof.Rows hiding St

/-- what may be read of d at v now -/
def TopH (K : PySem.W.Frag) (H G : Hp) : D → V → Prop
  | .tup l, v => ∃ a xs, v = .ref a ∧ SqT K H a xs ∧ RVs K G l xs ∧ TupAt K G a xs
  | .lst l, v => ∃ a xs, v = .ref a ∧ Rd H a (.lst xs) ∧ RVs K G l xs
  | .dic ks l, v => ∃ a kvs, v = .ref a ∧ Rd H a (.dK kvs) ∧ kvs.map (·.1) = ks ∧ RVs K G l (kvs.map (·.2))
  | .ins _ _ _, _ => True
  | .non, v => v = .non
  | .bl b, v => v = .bl b
  | .int i, v => v = .int i
  | .str x, v => v = .str x
section
variable {K : PySem.W.Frag} {H G H' G' : Hp} {own own' : Own} {o : Orig} {σ : St} {ρ : Env} {d : D} {v : V} {p : Addr} {u : HO}
theorem RV.top (g : Good H G own) : ∀ {d : D} {v : V}, RV K G d v → TopH K H G d v
  | .tup l, v, h => by
    obtain ⟨a, xs, h1, h2, h3⟩ := h.tup_inv
    exact ⟨a, xs, h1, g.tup h2, h3, h2⟩
  | .lst l, v, h => by
    obtain ⟨a, xs, h1, h2, h3⟩ := h.lst_inv
    exact ⟨a, xs, h1, g.rd _ _ h2, h3⟩
  | .dic ks l, v, h => by
    obtain ⟨a, xs, h1, h2, h3, h4⟩ := h.dic_inv
    exact ⟨a, xs, h1, g.rd _ _ h2, h3, h4⟩
  | .ins _ _ _, _, _ => trivial
  | .non, _, h => h.non_inv
  | .bl _, _, h => h.bl_inv
  | .int _, _, h => h.int_inv
  | .str _, _, h => h.str_inv
theorem RC.top (g : Good H G own) {l : Option Nat} : ∀ {c : C} {v : V}, RC K H G own l c v → TopH K H G c.frz v
  | .v d, v, h => RV.top g h
  | .lst l, v, ⟨a, xs, h1, h2, h3, h4⟩ => ⟨a, xs, h1, .inl h2, h4⟩
  | .dic ks vs, v, ⟨a, kvs, h1, h2, h3, h4, h5⟩ => ⟨a, kvs, h1, .inl h2, h4, h5⟩
  | .ins _ _ _, _, _ => trivial
end

/-- a content as it is read: whose it is doesn't matter -/
def RLf (K : PySem.W.Frag) (H G : Hp) : F → V → Prop
  | .v d, v => RV K G d v
  | .lst l, v => ∃ a xs, v = .ref a ∧ H a = some (.lst xs) ∧ RVs K G l xs
  | .dic ks l, v => ∃ a kvs, v = .ref a ∧ H a = some (.dK kvs) ∧ kvs.map (·.1) = ks ∧ RVs K G l (kvs.map (·.2))
def RLs (K : PySem.W.Frag) (H G : Hp) : List Str → List F → List (Str × V) → Prop
  | [], [], [] => True
  | n :: ns, f :: fs, p :: r => p.1 = n ∧ RLf K H G f p.2 ∧ RLs K H G ns fs r
  | _, _, _ => False
def RL (K : PySem.W.Frag) (H G : Hp) : C → V → Prop
  | .v d, v => RV K G d v
  | .lst l, v => ∃ a xs, v = .ref a ∧ H a = some (.lst xs) ∧ RVs K G l xs
  | .dic ks l, v => ∃ a kvs, v = .ref a ∧ H a = some (.dK kvs) ∧ kvs.map (·.1) = ks ∧ RVs K G l (kvs.map (·.2))
  | .ins c ns fs, v => ∃ a dx vf, v = .ref a ∧ H a = some (.ins c dx vf) ∧ RLs K H G ns fs vf
theorem RF.rl {K : PySem.W.Frag} {H G : Hp} {own : Own} {l : Option Nat} {t : Str} : ∀ {f : F} {v : V}, RF K H G own l t f v → RLf K H G f v
  | .v d, v, h => h
  | .lst _, v, ⟨a, xs, h1, h2, _, h4⟩ => ⟨a, xs, h1, h2, h4⟩
  | .dic _ _, v, ⟨a, xs, h1, h2, _, h4, h5⟩ => ⟨a, xs, h1, h2, h4, h5⟩
theorem RFs.rl {K : PySem.W.Frag} {H G : Hp} {own : Own} {l : Option Nat} : ∀ {ns : List Str} {fs : List F} {vf : List (Str × V)}, RFs K H G own l ns fs vf → RLs K H G ns fs vf
  | [], [], [], _ => trivial
  | n :: ns, f :: fs, p :: r, ⟨h1, h2, h3⟩ => ⟨h1, h2.rl, RFs.rl h3⟩
theorem RC.rl {K : PySem.W.Frag} {H G : Hp} {own : Own} {l : Option Nat} : ∀ {c : C} {v : V}, RC K H G own l c v → RL K H G c v
  | .v d, v, h => h
  | .lst _, v, ⟨a, xs, h1, h2, _, h4⟩ => ⟨a, xs, h1, h2, h4⟩
  | .dic _ _, v, ⟨a, xs, h1, h2, _, h4, h5⟩ => ⟨a, xs, h1, h2, h4, h5⟩
  | .ins c ns fs, v, ⟨a, dx, vf, h1, h2, _, _, _, _, h7⟩ => ⟨a, dx, vf, h1, h2, h7.rl⟩
theorem RL.top {K : PySem.W.Frag} {H G : Hp} {own : Own} (g : Good H G own) : ∀ {c : C} {v : V}, RL K H G c v → TopH K H G c.frz v
  | .v d, v, h => RV.top g h
  | .lst l, v, ⟨a, xs, h1, h2, h4⟩ => ⟨a, xs, h1, .inl h2, h4⟩
  | .dic ks vs, v, ⟨a, kvs, h1, h2, h4, h5⟩ => ⟨a, kvs, h1, .inl h2, h4, h5⟩
  | .ins _ _ _, _, _ => trivial

/-! ### the kinds of expressions: readable now; quiet -/
def OkR (K : PySem.W.Frag) (o : Orig) (σ : St) (G : Hp) (r : R D) : VK := fun v H' => ∃ d ρ' G' own', r = .ok d ρ' ∧ Cfg K o σ H' G' own' ρ' ∧ Ext G G' ∧ TopH K H' G' d v
def SR (X : Cx) (e : Expr) (m : ME) : Prop := ∀ o σ H G own ρ, Cfg X.K o σ H G own ρ → m ρ ≠ .bad → wE (Cx.to X o (m ρ)) e σ H (OkR X.K o σ G (m ρ))
def SQ (X : Cx) (e : Expr) (q : Env → Option C) : Prop := ∀ (E : Value → Shared → Prop) o σ H G own ρ c, Cfg X.K o σ H G own ρ → q ρ = some c → wE (X.wish E) e σ H (fun v H' => H' = H ∧ RL X.K H G c v)
def mR (q : Env → Option C) : ME := fun ρ => match q ρ with
  | some c => .ok c.frz ρ
  | none => .bad
def mV (q : Env → Option C) : ME := fun ρ => match q ρ with
  | some (.v d) => .ok d ρ
  | _ => .bad
section
variable {X : Cx} {o : Orig} {σ : St} {H G : Hp} {own : Own} {ρ : Env} {e a b : Expr} {m ma mb : ME} {q qa qb : Env → Option C} {pos : Pos}
theorem SR.we {α : Type} {r : R α} {Q : VK} (h : SR X e m) (c : Cfg X.K o σ H G own ρ) (nb : m ρ ≠ .bad) (hx : Xle (m ρ) r)
    (k : ∀ d ρ' v H' G' own', m ρ = .ok d ρ' → Cfg X.K o σ H' G' own' ρ' → Ext G G' → TopH X.K H' G' d v → Q v H') : wE (Cx.to X o r) e σ H Q :=
  wE_mono (h o σ H G own ρ c nb) (fun v H' ⟨d, ρ', G', own', e, c', x, rv⟩ => k d ρ' v H' G' own' e c' x rv) fun u s' x => XE.imp (fun _ _ _ _ w => WO.imp hx w) x
theorem SE.sr (h : SE X e m) : SR X e m := fun o σ H G own ρ c nb => h.we c nb .refl fun d ρ' v H' G' own' e c' x rv => ⟨d, ρ', G', own', e, c', x, rv.top c'.good⟩
theorem SQ.sr (h : SQ X e q) : SR X e (mR q) := fun o σ H G own ρ c nb => by
  unfold mR at nb ⊢
  cases e1 : q ρ with
  | none => rw [e1] at nb; exact absurd rfl nb
  | some cc =>
    refine wE_mono (h _ o σ H G own ρ cc c e1) (fun v H' ⟨z, r⟩ => ?_) fun _ _ x => x
    subst z
    exact ⟨_, _, G, own, rfl, c, Ext.rfl', r.top c.good⟩
theorem SQ.se (h : SQ X e q) : SE X e (mV q) := fun o σ H G own ρ c nb => by
  unfold mV at nb ⊢
  cases e1 : q ρ with
  | none => rw [e1] at nb; exact absurd rfl nb
  | some cc =>
    cases cc with
    | v d =>
      refine wE_mono (h _ o σ H G own ρ _ c e1) (fun v H' ⟨z, r⟩ => ?_) fun _ _ x => x
      subst z
      exact ⟨_, _, G, own, rfl, c, Ext.rfl', r⟩
    | lst _ => rw [e1] at nb; exact absurd rfl nb
    | dic _ _ => rw [e1] at nb; exact absurd rfl nb
    | ins _ _ _ => rw [e1] at nb; exact absurd rfl nb

/-! ### names, constants -/
def qVar (i : Nat) : Env → Option C := fun ρ => ρ[i]?.join
theorem sq_var {i : Nat} {x : Str} (hN : X.N[i]? = some x) (hv : Vis X.env.scope x) (hd : (x == ("__debug__" : Str)) = false := by decide) (hcd : (x == ("__classdict__" : Str)) = false := by decide) : SQ X (.Name x pos) (qVar i) := by
  intro E o σ H G own ρ c cf h
  refine .sh fun pins s I => ?_
  have h' : ρ[i]? = some (some c) := by
    unfold qVar at h
    cases e : ρ[i]? with
    | none => rw [e] at h; cases h
    | some z => rw [e] at h; simp at h; rw [h]
  obtain ⟨v, h1, h2⟩ := cf.er i c h'
  exact (pe_var (X := X.wish E) hN hv hd hcd).run pins s σ H _ I ⟨v, h1, rfl, h2.rl⟩
def qC (d : D) : Env → Option C := fun _ => some (.v d)
theorem sq_int {i : Int} {j : Nat} : SQ X (.Constant (.int i) j pos) (qC (.int i)) := by
  intro E o σ H G own ρ c cf h
  refine .sh fun pins s I => ?_
  cases h
  exact pe_int.run pins s σ H _ I ⟨rfl, (rv_int : RV X.K G _ _)⟩
theorem sq_str {x : Str} {j : Nat} : SQ X (.Constant (.str x) j pos) (qC (.str x)) := by
  intro E o σ H G own ρ c cf h
  refine .sh fun pins s I => ?_
  cases h
  exact pe_str.run pins s σ H _ I ⟨rfl, (rv_str : RV X.K G _ _)⟩
theorem sq_bl {x : Bool} {j : Nat} : SQ X (.Constant (.bool x) j pos) (qC (.bl x)) := by
  intro E o σ H G own ρ c cf h
  refine .sh fun pins s I => ?_
  cases h
  exact pe_bl.run pins s σ H _ I ⟨rfl, (rv_bl : RV X.K G _ _)⟩
theorem sq_non {j : Nat} : SQ X (.Constant .none j pos) (qC .non) := by
  intro E o σ H G own ρ c cf h
  refine .sh fun pins s I => ?_
  cases h
  exact pe_non.run pins s σ H _ I ⟨rfl, (rv_non : RV X.K G _ _)⟩
/-- a module's constant -/
theorem sq_glob {x : Str} {v : V} {u : Value} {d : D} (hg : Gl X x) (hm : X.mg x = some u) (r : RelV v u) (hd : ∀ G, RV X.K G d v) (hdb : (x == ("__debug__" : Str)) = false := by decide) : SQ X (.Name x pos) (qC d) := by
  intro E o σ H G own ρ c cf h
  refine .sh fun pins s I => ?_
  cases h
  exact (pe_glob (X := X.wish E) hg hm r hdb).run pins s σ H _ I ⟨rfl, hd G⟩

/-! ### attributes -/
def frF : F → C
  | .v d => .v d
  | .lst l => .lst l
  | .dic ks vs => .dic ks vs
/-- of the classes cl -/
def attrC (cl : List Addr) (f : Str) : C → Option C
  | .v (.ins c ns vs) => if c ∈ cl then ((ns.zip vs).lookup f).map .v else none
  | .ins c ns fs => if c ∈ cl then ((ns.zip fs).lookup f).map frF else none
  | _ => none
theorem RVs.lookup {K : PySem.W.Frag} {G : Hp} {f : Str} {d : D} : ∀ {vs : List D} {fs : List (Str × V)}, RVs K G vs (fs.map (·.2)) → ((fs.map (·.1)).zip vs).lookup f = some d → ∃ v, fs.lookup f = some v ∧ RV K G d v
  | [], fs, h, e => by simp at e
  | d' :: vs, [], h, e => by simp at e
  | d' :: vs, p :: fs, h, e => by
    obtain ⟨x, r, e1, h1, h2⟩ := h.inv_cons
    simp only [List.map_cons, List.cons.injEq] at e1
    obtain ⟨rfl, rfl⟩ := e1
    simp only [List.map_cons, List.zip_cons_cons, List.lookup_cons] at e
    rw [show (p :: fs).lookup f = _ from List.lookup_cons]
    cases hb : f == p.1 with
    | true =>
      rw [hb] at e
      cases e
      exact ⟨_, rfl, h1⟩
    | false =>
      rw [hb] at e
      exact RVs.lookup h2 e
theorem RLs.lookup {K : PySem.W.Frag} {H G : Hp} {f : Str} {d : F} : ∀ {ns : List Str} {fs : List F} {vf : List (Str × V)}, RLs K H G ns fs vf → (ns.zip fs).lookup f = some d → ∃ v, vf.lookup f = some v ∧ RLf K H G d v
  | [], [], [], _, e => by simp at e
  | n :: ns, g :: fs, p :: r, ⟨h1, h2, h3⟩, e => by
    simp only [List.zip_cons_cons, List.lookup_cons] at e
    rw [show (p :: r).lookup f = _ from List.lookup_cons, h1]
    cases hb : f == n with
    | true =>
      rw [hb] at e
      cases e
      exact ⟨_, rfl, h2⟩
    | false =>
      rw [hb] at e
      exact RLs.lookup h3 e
theorem sq_attr {cl : List Addr} {f : Str} (h : SQ X e q) (hC : ∀ C ∈ cl, Cls X.K C ∧ NoAttr X.K C f) (hb : attributeBase e f X.env (eval e X.env) = eval e X.env) : SQ X (.Attribute e f pos) (fun ρ => (q ρ).bind (attrC cl f)) := by
  intro E o σ H G own ρ c cf hq
  refine .sh fun pins s I => ?_
  obtain ⟨c0, e0, e1⟩ := Option.bind_eq_some_iff.mp hq
  refine (pe_fld (X := X.wish E) pe_w hb).run pins s σ H _ I ?_
  refine wE_mono (h E o σ H G own ρ c0 cf e0) (fun v H' ⟨z, r⟩ => ?_) fun _ _ x => x
  subst z
  cases c0 with
  | v d =>
    cases d with
    | ins cc ns vs =>
      simp only [attrC] at e1
      split at e1
      · rename_i hcl
        obtain ⟨d1, e2, e3⟩ := Option.map_eq_some_iff.mp e1
        obtain ⟨a, dx, fs, rfl, h2, h3, h4, h5⟩ := RV.ins_inv r
        subst h4
        obtain ⟨w, h6, h7⟩ := RVs.lookup h5 e2
        subst e3
        exact ⟨a, cc, dx, fs, w, rfl, cf.good.rdi _ _ (.ins _ _ _) h2, (hC cc hcl).1, (hC cc hcl).2, h6, rfl, h7⟩
      · cases e1
    | _ => cases e1
  | ins cc ns fs =>
    simp only [attrC] at e1
    split at e1
    · rename_i hcl
      obtain ⟨d1, e2, e3⟩ := Option.map_eq_some_iff.mp e1
      obtain ⟨a, dx, vf, rfl, h2, h3⟩ := r
      obtain ⟨w, h6, h7⟩ := RLs.lookup h3 e2
      subst e3
      refine ⟨a, cc, dx, vf, w, rfl, h2, (hC cc hcl).1, (hC cc hcl).2, h6, rfl, ?_⟩
      cases d1 <;> exact h7
    · cases e1
  | lst _ => cases e1
  | dic _ _ => cases e1
end
end DL

set_option maxRecDepth 100000
set_option maxHeartbeats 2000000
namespace DL
open PySem PySem.Spec L2
open PyProof.Rows hiding St

theorem R.bind_nb {α β : Type} {r : R α} {k : α → Env → R β} (h : r.bind k ≠ .bad) : r ≠ .bad := fun z => h (by rw [z]; rfl)
def opt {α : Type} (d : Option α) (ρ : Env) : R α := match d with
  | some d => .ok d ρ
  | none => .bad
theorem opt_nb {α : Type} {d : Option α} {ρ : Env} (h : opt d ρ ≠ .bad) : ∃ x, d = some x ∧ opt d ρ = .ok x ρ := by
  cases d with
  | none => exact absurd rfl h
  | some x => exact ⟨x, rfl, rfl⟩
/-- any rule that fits -/
def anyO (Y : Cx) (F : Value → Value → Sem Value) : R2 := fun x y H Q => ∃ r, OpR Y F r ∧ r x y H Q
theorem op_any {Y : Cx} {F : Value → Value → Sem Value} : OpR Y F (anyO Y F) := fun pins s σ H x y v u Q I rx ry ⟨r, hr, q⟩ => hr pins s σ H x y v u Q I rx ry q
def anyI (Y : Cx) : R2 := fun x y H Q => ∃ r, IxR Y r ∧ r x y H Q
theorem ix_any {Y : Cx} : IxR Y (anyI Y) := fun value slice pins s σ H x y v u Q I rx ry ⟨r, hr, q⟩ hs => hr value slice pins s σ H x y v u Q I rx ry q hs
def anyC (Y : Cx) (f : Value) : List V → Hp → VK → Prop := fun vs H Q => ∃ r, CallR Y f r ∧ r vs H Q
theorem call_any {Y : Cx} {f : Value} : CallR Y f (anyC Y f) := fun pins s σ H xs us Q I rx ⟨r, hr, q⟩ => hr pins s σ H xs us Q I rx q

section
variable {X : Cx} {o : Orig} {σ : St} {H G : Hp} {own : Own} {ρ : Env} {e a b c : Expr} {m ma mb mc : ME} {q qa qb : Env → Option C} {pos : Pos}
theorem use2 {α β : Type} {r : R α} {ma : Env → R D} {mb : Env → R D} {k : D → D → Env → R β} {M : R β} {RR : V → V → Hp → Prop} (ha : SE X a ma) (hb : SE X b mb) (hM : M = (ma ρ).bind fun x ρ1 => (mb ρ1).bind (k x)) (c : Cfg X.K o σ H G own ρ) (nb : M ≠ .bad) (hx : Xle M r)
    (fin : ∀ d1 d2 ρ2 v1 v2 H2 G2 own2, k d1 d2 ρ2 ≠ .bad → M = k d1 d2 ρ2 → Cfg X.K o σ H2 G2 own2 ρ2 → Ext G G2 → RV X.K G2 d1 v1 → RV X.K G2 d2 v2 → RR v1 v2 H2) :
    wE (Cx.to X o r) a σ H fun x H1 => wE (Cx.to X o r) b σ H1 fun y H2 => RR x y H2 := by
  subst hM
  refine ha.we c (R.bind_nb nb) (Xle.bind.trans hx) fun d1 ρ1 v1 H1 G1 own1 e1 c1 x1 r1 => ?_
  rw [e1, R.bind_ok] at nb
  refine hb.we c1 (R.bind_nb nb) (Xle.bind.trans (Xle.trans (Xle.of_eq (by rw [e1, R.bind_ok])) hx)) fun d2 ρ2 v2 H2 G2 own2 e2 c2 x2 r2 => ?_
  rw [e2, R.bind_ok] at nb
  exact fin d1 d2 ρ2 v1 v2 H2 G2 own2 nb (by rw [e1, R.bind_ok, e2, R.bind_ok]) c2 (x1.trans x2) (RV.mono x2 _ _ r1) r2
theorem use2r {α β : Type} {r : R α} {ma : Env → R D} {mb : Env → R D} {k : D → D → Env → R β} {M : R β} {RR : V → V → Hp → Prop} (ha : SE X a ma) (hb : SR X b mb) (hM : M = (ma ρ).bind fun x ρ1 => (mb ρ1).bind (k x)) (c : Cfg X.K o σ H G own ρ) (nb : M ≠ .bad) (hx : Xle M r)
    (fin : ∀ d1 d2 ρ2 v1 v2 H2 G2 own2, k d1 d2 ρ2 ≠ .bad → M = k d1 d2 ρ2 → Cfg X.K o σ H2 G2 own2 ρ2 → Ext G G2 → RV X.K G2 d1 v1 → TopH X.K H2 G2 d2 v2 → RR v1 v2 H2) :
    wE (Cx.to X o r) a σ H fun x H1 => wE (Cx.to X o r) b σ H1 fun y H2 => RR x y H2 := by
  subst hM
  refine ha.we c (R.bind_nb nb) (Xle.bind.trans hx) fun d1 ρ1 v1 H1 G1 own1 e1 c1 x1 r1 => ?_
  rw [e1, R.bind_ok] at nb
  refine hb.we c1 (R.bind_nb nb) (Xle.bind.trans (Xle.trans (Xle.of_eq (by rw [e1, R.bind_ok])) hx)) fun d2 ρ2 v2 H2 G2 own2 e2 c2 x2 r2 => ?_
  rw [e2, R.bind_ok] at nb
  exact fin d1 d2 ρ2 v1 v2 H2 G2 own2 nb (by rw [e1, R.bind_ok, e2, R.bind_ok]) c2 (x1.trans x2) (RV.mono x2 _ _ r1) r2
/-- a quiet one, then a readable one that is quiet too -/
theorem useq2 {β : Type} {k : C → D → Env → R β} {M : R β} {RR : V → V → Hp → Prop} (ha : SQ X a qa) (hb : SQ X b qb) (hM : M = match qa ρ, qb ρ with | some x, some (.v y) => k x y ρ | _, _ => .bad) (c : Cfg X.K o σ H G own ρ) (nb : M ≠ .bad)
    {E : Value → Shared → Prop} (fin : ∀ d1 d2 v1 v2, k d1 d2 ρ ≠ .bad → M = k d1 d2 ρ → RL X.K H G d1 v1 → RV X.K G d2 v2 → RR v1 v2 H) :
    wE (X.wish E) a σ H fun x H1 => wE (X.wish E) b σ H1 fun y H2 => RR x y H2 := by
  subst hM
  cases e1 : qa ρ with
  | none => rw [e1] at nb; exact absurd rfl nb
  | some d1 =>
    cases e2 : qb ρ with
    | none => rw [e1, e2] at nb; exact absurd rfl nb
    | some cc =>
      cases cc with
      | v d2 =>
        rw [e1, e2] at nb
        refine wE_mono (ha _ o σ H G own ρ _ c e1) (fun v H' ⟨z, r⟩ => ?_) fun _ _ x => x
        subst z
        refine wE_mono (hb _ o σ _ G own ρ _ c e2) (fun v' H'' ⟨z, r'⟩ => ?_) fun _ _ x => x
        subst z
        exact fin d1 d2 v v' nb (by rw [e1, e2]) r r'
      | _ => rw [e1, e2] at nb; exact absurd rfl nb
/-- a reading by data -/
def ET (X : Cx) (tf : Cx → TE) (m : ME) : Prop := ∀ o σ H G own ρ (α : Type) (r : R α) (Q : VK), Cfg X.K o σ H G own ρ → m ρ ≠ .bad → Xle (m ρ) r →
  (∀ d ρ' v H' G' own', m ρ = .ok d ρ' → Cfg X.K o σ H' G' own' ρ' → Ext G G' → RV X.K G' d v → Q v H') → tf (Cx.to X o r) σ H Q
theorem ET.se {tf : Cx → TE} (h : ET X tf m) (hp : ∀ E, PE (X.wish E) e (tf (X.wish E))) : SE X e m := SE.of fun o σ H G own ρ c nb => ⟨_, hp _, h o σ H G own ρ D (m ρ) _ c nb .refl fun d ρ' v H' G' own' e c' x rv => ⟨d, ρ', G', own', e, c', x, rv⟩⟩
def mB (m : ME) : MT := fun ρ => (m ρ).bind fun d ρ' => match d with
  | .bl b => .ok b ρ'
  | _ => .bad
theorem ET.st {tf : Cx → TE} (h : ET X tf m) (hp : ∀ E, PT (X.wish E) e (tTest (tf (X.wish E)))) : ST X e (mB m) := ST.of fun o σ H G own ρ c nb => ⟨_, hp _, by
  have nb' : (mB m ρ) ≠ .bad := nb
  unfold mB at nb
  refine h o σ H G own ρ Bool (mB m ρ) _ c (R.bind_nb nb) Xle.bind fun d ρ' v H' G' own' e c' x rv => ?_
  rw [e, R.bind_ok] at nb
  cases d with
  | bl b =>
    obtain rfl := rv.bl_inv
    exact ⟨b, rfl, ρ', G', own', by unfold mB; rw [e]; rfl, c', x⟩
  | _ => exact absurd rfl nb⟩
theorem SE.et (h : SE X e m) : ET X (fun Y => wE Y e) m := fun o σ H G own ρ α r Q c nb hx k => h.we c nb hx k
/-! ### operators -/
def mBin (f : D → D → Option D) (ma mb : ME) : ME := fun ρ => (ma ρ).bind fun x ρ1 => (mb ρ1).bind fun y ρ2 => opt (f x y) ρ2
/-- the value of an operator, where what is wanted is wider -/
theorem any_of {F : Value → Value → Sem Value} {Y : Cx} {r : R2} {x y : V} {H : Hp} {Q Q' : VK} (hr : OpR Y F r) (h : r x y H Q) (k : ∀ z H', Q z H' → Q' z H') : anyO Y F x y H Q' :=
  ⟨fun x y H Q => ∃ Q', r x y H Q' ∧ ∀ z H', Q' z H' → Q z H', fun pins s σ H x y v u Q I rx ry ⟨Q', h1, h2⟩ => thn (hr pins s σ H x y v u Q' I rx ry h1) fun _ _ ⟨z, H', I', r', q'⟩ => ⟨z, H', I', r', h2 _ _ q'⟩, Q, h, k⟩
theorem et_bin {F : Value → Value → Sem Value} {f : D → D → Option D} (ho : OpX X F f) (ha : SE X a ma) (hb : SE X b mb) : ET X (fun Y => tOp (anyO Y F) (wE Y a) (wE Y b)) (mBin f ma mb) := fun o σ H G own ρ α r Q c nb hx k =>
  use2 ha hb rfl c nb hx fun d1 d2 ρ2 v1 v2 H2 G2 own2 nb2 e c2 x r1 r2 => by
    obtain ⟨d, e1, e2⟩ := opt_nb nb2
    obtain ⟨r', hr, hq⟩ := ho (XE X (WO X.K o r)) o σ H2 G2 own2 ρ2 d1 d2 d v1 v2 c2 r1 r2 e1
    exact any_of hr hq fun z H' ⟨G', own', c', x', rv⟩ => k d ρ2 z H' G' own' (e.trans e2) c' (x.trans x') rv
theorem se_bin {op : Operator} {f : D → D → Option D} (ho : OpX X (binaryOp op) f) (ha : SE X a ma) (hb : SE X b mb) : SE X (.BinOp a op b pos) (mBin f ma mb) := (et_bin ho ha hb).se fun _ => pe_op op_any pe_w pe_w
theorem se_cmp {op : CmpOp} {f : D → D → Option D} (ho : OpX X (compareOp op) f) (ha : SE X a ma) (hb : SE X b mb) (hm : behindInMarks op b = false) : SE X (.Compare a [op] [b] pos) (mBin f ma mb) := (et_bin ho ha hb).se fun _ => pe_cmpR op_any pe_w pe_w hm
theorem st_cmp {op : CmpOp} {f : D → D → Option D} (ho : OpX X (compareOp op) f) (ha : SE X a ma) (hb : SE X b mb) (hm : behindInMarks op b = false) : ST X (.Compare a [op] [b] pos) (mB (mBin f ma mb)) := (et_bin ho ha hb).st fun _ => pt_cmpR op_any pe_w pe_w hm
/-- x in y, y readable -/
def OpT (X : Cx) (f : Value → Value → Sem Value) (fd : D → D → Option D) : Prop :=
  ∀ (E : Value → Shared → Prop) o σ H G own ρ dx dy d x y, Cfg X.K o σ H G own ρ → RV X.K G dx x → TopH X.K H G dy y → fd dx dy = some d → ∃ r, OpR (X.wish E) f r ∧ r x y H (OkD X.K o σ ρ G d)
theorem et_in {F : Value → Value → Sem Value} {f : D → D → Option D} (ho : OpT X F f) (ha : SE X a ma) (hb : SR X b mb) : ET X (fun Y => tOp (anyO Y F) (wE Y a) (wE Y b)) (mBin f ma mb) := fun o σ H G own ρ α r Q c nb hx k =>
  use2r ha hb rfl c nb hx fun d1 d2 ρ2 v1 v2 H2 G2 own2 nb2 e c2 x r1 r2 => by
    obtain ⟨d, e1, e2⟩ := opt_nb nb2
    obtain ⟨r', hr, hq⟩ := ho (XE X (WO X.K o r)) o σ H2 G2 own2 ρ2 d1 d2 d v1 v2 c2 r1 r2 e1
    exact any_of hr hq fun z H' ⟨G', own', c', x', rv⟩ => k d ρ2 z H' G' own' (e.trans e2) c' (x.trans x') rv
theorem se_in {op : CmpOp} {f : D → D → Option D} (ho : OpT X (compareOp op) f) (ha : SE X a ma) (hb : SR X b mb) (hm : behindInMarks op b = false) : SE X (.Compare a [op] [b] pos) (mBin f ma mb) := (et_in ho ha hb).se fun _ => pe_cmpR op_any pe_w pe_w hm
theorem st_in {op : CmpOp} {f : D → D → Option D} (ho : OpT X (compareOp op) f) (ha : SE X a ma) (hb : SR X b mb) (hm : behindInMarks op b = false) : ST X (.Compare a [op] [b] pos) (mB (mBin f ma mb)) := (et_in ho ha hb).st fun _ => pt_cmpR op_any pe_w pe_w hm
def mNeg (ma : ME) : ME := fun ρ => (ma ρ).bind fun x ρ1 => match x with
  | .int i => .ok (.int (-i)) ρ1
  | _ => .bad
theorem se_neg (ha : SE X a ma) : SE X (.UnaryOp .USub a pos) (mNeg ma) := SE.of fun o σ H G own ρ c nb => ⟨_, pe_un un_neg pe_w, by
  refine ha.we c (R.bind_nb nb) Xle.bind fun d1 ρ1 v1 H1 G1 own1 e1 c1 x1 r1 => ?_
  unfold mNeg at nb ⊢
  rw [e1, R.bind_ok] at nb ⊢
  cases d1 with
  | int i =>
    obtain rfl := r1.int_inv
    exact ⟨i, rfl, _, _, G1, own1, rfl, c1, x1, rv_int⟩
  | _ => exact absurd rfl nb⟩
/-- a comparison -/
theorem opx_cmp {op : CmpOp} {p : Int → Int → Bool} (h : ∀ (E : Value → Shared → Prop), OpR (X.wish E) (compareOp op) (rI0 fun i j => .bl (p i j))) :
    OpX X (compareOp op) (fun x y => match x, y with | .int i, .int j => some (.bl (p i j)) | _, _ => none) := by
  intro E o σ H G own ρ dx dy d x y c hx hy h'
  dsimp only at h'
  split at h'
  · cases h'
    obtain rfl := hx.int_inv
    obtain rfl := hy.int_inv
    exact ⟨_, h E, _, _, rfl, rfl, okd_pure c rv_bl⟩
  · cases h'
def ltD : D → D → Option D := fun x y => match x, y with | .int i, .int j => some (.bl (decide (i < j))) | _, _ => none
def leD : D → D → Option D := fun x y => match x, y with | .int i, .int j => some (.bl (decide (i ≤ j))) | _, _ => none
def gtD : D → D → Option D := fun x y => match x, y with | .int i, .int j => some (.bl (decide (j < i))) | _, _ => none
def geD : D → D → Option D := fun x y => match x, y with | .int i, .int j => some (.bl (decide (j ≤ i))) | _, _ => none
theorem opx_lt : OpX X (compareOp .Lt) ltD := opx_cmp fun _ => op_lt
theorem opx_le : OpX X (compareOp .LtE) leD := opx_cmp fun _ => op_le
theorem opx_gt : OpX X (compareOp .Gt) gtD := opx_cmp fun _ => op_gt
theorem opx_ge : OpX X (compareOp .GtE) geD := opx_cmp fun _ => op_ge
end
mutual
def toPy : D → Option PyData
  | .non => some .none
  | .bl b => some (.bool b)
  | .int i => some (.int i)
  | .str x => some (.str x)
  | .tup l => (toPys l).map .tuple
  | .lst l => (toPys l).map .list
  | .dic _ _ => none
  | .ins _ _ _ => none
def toPys : List D → Option (List PyData)
  | [] => some []
  | d :: l => match toPy d, toPys l with
    | some x, some r => some (x :: r)
    | _, _ => none
end
mutual
theorem RV.dp {K : PySem.W.Frag} {H G : Hp} {own : Own} (g : Good H G own) : ∀ (d : D) (v : V) (p : PyData), RV K G d v → toPy d = some p → Dp K H v p
  | .non, v, p, h, e => by simp only [toPy] at e; cases e; rw [h.non_inv]; exact .non
  | .bl b, v, p, h, e => by simp only [toPy] at e; cases e; rw [h.bl_inv]; exact .bl b
  | .int b, v, p, h, e => by simp only [toPy] at e; cases e; rw [h.int_inv]; exact .int b
  | .str b, v, p, h, e => by simp only [toPy] at e; cases e; rw [h.str_inv]; exact .str b
  | .tup l, v, p, h, e => by
    simp only [toPy] at e
    obtain ⟨ps, e1, e2⟩ := Option.map_eq_some_iff.mp e
    obtain ⟨a, xs, rfl, h2, h3⟩ := h.tup_inv
    subst e2
    exact .tup (g.tup h2) (RVs.dp g l xs ps h3 e1)
  | .lst l, v, p, h, e => by
    simp only [toPy] at e
    obtain ⟨ps, e1, e2⟩ := Option.map_eq_some_iff.mp e
    obtain ⟨a, xs, rfl, h2, h3⟩ := h.lst_inv
    subst e2
    exact .lst (g.lst h2) (RVs.dp g l xs ps h3 e1)
  | .dic _ _, v, p, h, e => by simp only [toPy] at e; cases e
  | .ins _ _ _, v, p, h, e => by simp only [toPy] at e; cases e
theorem RVs.dp {K : PySem.W.Frag} {H G : Hp} {own : Own} (g : Good H G own) : ∀ (l : List D) (xs : List V) (ps : List PyData), RVs K G l xs → toPys l = some ps → DpAll K H xs ps
  | [], xs, ps, h, e => by simp only [toPys] at e; cases e; rw [h.inv_nil]; exact .nil
  | d :: l, xs, ps, h, e => by
    obtain ⟨x, r, rfl, h1, h2⟩ := h.inv_cons
    simp only [toPys] at e
    split at e
    · rename_i x' r' e1 e2
      cases e
      exact .cons (RV.dp g d x _ h1 e1) (RVs.dp g l r _ h2 e2)
    · cases e
end
/-- == and != of data -/
def eqP (x y : D) : Option Bool := match toPy x, toPy y with
  | some p, some r => if SeqAt.shaped p = true ∧ SeqAt.shaped r = true then some (PyData.eqv p r) else none
  | _, _ => none
def eqD (x y : D) : Option D := (eqP x y).map .bl
def neD (x y : D) : Option D := (eqP x y).map fun b => .bl (!b)
section
variable {X : Cx} {o : Orig} {σ : St} {H G : Hp} {own : Own} {ρ : Env} {e a b c : Expr} {m ma mb mc : ME} {q qa qb : Env → Option C} {pos : Pos}
theorem opx_eq (hu : X.A.units + 100 < cLine) : OpX X (compareOp .Eq) eqD := by
  intro E o σ H G own ρ dx dy d x y c hx hy h
  unfold eqD eqP at h
  obtain ⟨b, h1, h2⟩ := Option.map_eq_some_iff.mp h
  split at h1
  · rename_i p r e1 e2
    split at h1
    · rename_i hs
      cases h1
      subst h2
      exact ⟨_, op_eqD (X := X.wish E) (show X.A.units + 64 < cLine by omega), p, r, RV.dp c.good _ _ _ hx e1, RV.dp c.good _ _ _ hy e2, hs.1, hs.2, okd_pure c rv_bl⟩
    · cases h1
  · cases h1
theorem opx_ne (hu : X.A.units + 100 < cLine) : OpX X (compareOp .NotEq) neD := by
  intro E o σ H G own ρ dx dy d x y c hx hy h
  unfold neD eqP at h
  obtain ⟨b, h1, h2⟩ := Option.map_eq_some_iff.mp h
  split at h1
  · rename_i p r e1 e2
    split at h1
    · rename_i hs
      cases h1
      subst h2
      exact ⟨_, op_neD (X := X.wish E) (show X.A.units + 64 < cLine by omega), p, r, RV.dp c.good _ _ _ hx e1, RV.dp c.good _ _ _ hy e2, hs.1, hs.2, okd_pure c rv_bl⟩
    · cases h1
  · cases h1
/-- a op b op' c -/
def mChain (f f' : D → D → Option D) (ma mb mc : ME) : ME := fun ρ => (ma ρ).bind fun x ρ1 => (mb ρ1).bind fun y ρ2 => match f x y with
  | some (.bl true) => (mc ρ2).bind fun z ρ3 => opt (f' y z) ρ3
  | some (.bl false) => .ok (.bl false) ρ2
  | _ => .bad
theorem et_chain {F F' : Value → Value → Sem Value} {f f' : D → D → Option D} (ho : OpX X F f) (ho' : OpX X F' f') (ha : SE X a ma) (hb : SE X b mb) (hc : SE X c mc) :
    ET X (fun Y => tChain (anyO Y F) (anyO Y F') (wE Y a) (wE Y b) (wE Y c)) (mChain f f' ma mb mc) := fun o σ H G own ρ α r Q c nb hx k =>
  use2 ha hb rfl c nb hx fun d1 d2 ρ2 v1 v2 H2 G2 own2 nb2 e c2 x r1 r2 => by
    cases e1 : f d1 d2 with
    | none => rw [e1] at nb2; exact absurd rfl nb2
    | some d =>
      rw [e1] at nb2 e
      cases d with
      | bl bb =>
        obtain ⟨r', hr, hq⟩ := ho (XE X (WO X.K o r)) o σ H2 G2 own2 ρ2 d1 d2 _ v1 v2 c2 r1 r2 e1
        refine any_of hr hq fun z H' ⟨G', own', c', x', rv⟩ => ?_
        obtain rfl := rv.bl_inv
        refine ⟨bb, rfl, ?_⟩
        cases bb with
        | false => exact k (.bl false) ρ2 _ H' G' own' e c' (x.trans x') rv_bl
        | true =>
          rw [if_pos rfl]
          refine hc.we c' (R.bind_nb nb2) (Xle.bind.trans (Xle.trans (Xle.of_eq e.symm) hx)) fun d3 ρ3 v3 H3 G3 own3 e3 c3 x3 r3 => ?_
          rw [e3, R.bind_ok] at nb2 e
          obtain ⟨d, e4, e5⟩ := opt_nb nb2
          obtain ⟨r'', hr', hq'⟩ := ho' (XE X (WO X.K o r)) o σ H3 G3 own3 ρ3 d2 d3 d v2 v3 c3 (RV.mono (x'.trans x3) _ _ r2) r3 e4
          exact any_of hr' hq' fun z H4 ⟨G4, own4, c4, x4, rv4⟩ => k d ρ3 z H4 G4 own4 (e.trans e5) c4 (((x.trans x').trans x3).trans x4) rv4
      | _ => exact absurd rfl nb2
theorem se_chain {op op' : CmpOp} {f f' : D → D → Option D} (ho : OpX X (compareOp op) f) (ho' : OpX X (compareOp op') f') (ha : SE X a ma) (hb : SE X b mb) (hc : SE X c mc) (hm : lastMarks [op, op'] [b, c] = false) :
    SE X (.Compare a [op, op'] [b, c] pos) (mChain f f' ma mb mc) := (et_chain ho ho' ha hb hc).se fun _ => pe_chain op_any op_any pe_w pe_w pe_w hm
theorem st_chain {op op' : CmpOp} {f f' : D → D → Option D} (ho : OpX X (compareOp op) f) (ho' : OpX X (compareOp op') f') (ha : SE X a ma) (hb : SE X b mb) (hc : SE X c mc) (hm : lastMarks [op, op'] [b, c] = false) :
    ST X (.Compare a [op, op'] [b, c] pos) (mB (mChain f f' ma mb mc)) := (et_chain ho ho' ha hb hc).st fun _ => pt_chain op_any op_any pe_w pe_w pe_w hm
end
end DL

set_option maxRecDepth 100000
set_option maxHeartbeats 2000000
namespace DL
open PySem PySem.Spec L2
open PyProof.Rows hiding St

def mAnd (ta tb : MT) : MT := fun ρ => (ta ρ).bind fun c ρ1 => if c = true then tb ρ1 else .ok false ρ1
def mOr (ta tb : MT) : MT := fun ρ => (ta ρ).bind fun c ρ1 => if c = true then .ok true ρ1 else tb ρ1
def mNot (ta : MT) : MT := fun ρ => (ta ρ).bind fun c ρ1 => .ok (!c) ρ1
def vAnd (ma mb : ME) : ME := fun ρ => (ma ρ).bind fun d ρ1 => match d with
  | .bl b => if b = true then mb ρ1 else .ok (.bl false) ρ1
  | _ => .bad
def vOr (ma mb : ME) : ME := fun ρ => (ma ρ).bind fun d ρ1 => match d with
  | .bl b => if b = true then .ok (.bl true) ρ1 else mb ρ1
  | _ => .bad
def vNot (ma : ME) : ME := fun ρ => (ma ρ).bind fun d ρ1 => match d with
  | .bl b => .ok (.bl (!b)) ρ1
  | _ => .bad
def mIf (t : MT) (ma mb : ME) : ME := fun ρ => (t ρ).bind fun c ρ1 => if c = true then ma ρ1 else mb ρ1
section
variable {X : Cx} {o : Orig} {σ : St} {H G : Hp} {own : Own} {ρ : Env} {e a b c d f : Expr} {m ma mb mc : ME} {ta tb tc td tf' : MT} {q qa qb : Env → Option C} {pos : Pos}
def TJ (X : Cx) (tf : Cx → TT) (m : MT) : Prop := ∀ o σ H G own ρ (α : Type) (r : R α) (Q : Bool → Hp → Prop), Cfg X.K o σ H G own ρ → m ρ ≠ .bad → Xle (m ρ) r →
  (∀ b ρ' H' G' own', m ρ = .ok b ρ' → Cfg X.K o σ H' G' own' ρ' → Ext G G' → Q b H') → tf (Cx.to X o r) σ H Q
theorem ST.tj (h : ST X e ta) : TJ X (fun Y => wT Y e) ta := fun o σ H G own ρ α r Q c nb hx k => h.we c nb hx k
theorem TJ.st {tf : Cx → TT} (h : TJ X tf ta) (hp : ∀ E, PT (X.wish E) e (tf (X.wish E))) : ST X e ta := ST.of fun o σ H G own ρ c nb => ⟨_, hp _, h o σ H G own ρ Bool (ta ρ) _ c nb .refl fun d ρ' H' G' own' e c' x => ⟨ρ', G', own', e, c', x⟩⟩
theorem tj_and {tf tg : Cx → TT} (h : TJ X tf ta) (h' : TJ X tg tb) : TJ X (fun Y => tAnd (tf Y) (tg Y)) (mAnd ta tb) := fun o σ H G own ρ α r Q c nb hx k => by
  refine h o σ H G own ρ α r _ c (R.bind_nb nb) (Xle.bind.trans hx) fun b ρ1 H1 G1 own1 e1 c1 x1 => ?_
  unfold mAnd at nb hx k
  rw [e1, R.bind_ok] at nb hx k
  cases b with
  | false => exact k false ρ1 H1 G1 own1 rfl c1 x1
  | true =>
    refine h' o σ H1 G1 own1 ρ1 α r Q c1 nb hx fun b' ρ' H' G' own' e' c' x' => k b' ρ' H' G' own' e' c' (x1.trans x')
theorem tj_or {tf tg : Cx → TT} (h : TJ X tf ta) (h' : TJ X tg tb) : TJ X (fun Y => tOr (tf Y) (tg Y)) (mOr ta tb) := fun o σ H G own ρ α r Q c nb hx k => by
  refine h o σ H G own ρ α r _ c (R.bind_nb nb) (Xle.bind.trans hx) fun b ρ1 H1 G1 own1 e1 c1 x1 => ?_
  unfold mOr at nb hx k
  rw [e1, R.bind_ok] at nb hx k
  cases b with
  | true => exact k true ρ1 H1 G1 own1 rfl c1 x1
  | false =>
    refine h' o σ H1 G1 own1 ρ1 α r Q c1 nb hx fun b' ρ' H' G' own' e' c' x' => k b' ρ' H' G' own' e' c' (x1.trans x')
theorem tj_not {tf : Cx → TT} (h : TJ X tf ta) : TJ X (fun Y => tNot (tf Y)) (mNot ta) := fun o σ H G own ρ α r Q c nb hx k => by
  refine h o σ H G own ρ α r _ c (R.bind_nb nb) (Xle.bind.trans hx) fun b ρ1 H1 G1 own1 e1 c1 x1 => ?_
  unfold mNot at nb hx k
  rw [e1, R.bind_ok] at nb hx k
  exact k (!b) ρ1 H1 G1 own1 rfl c1 x1
theorem st_and2 (h1 : ST X a ta) (h2 : ST X b tb) : ST X (.BoolOp .And [a, b] pos) (mAnd ta tb) := (tj_and h1.tj h2.tj).st fun _ => (pw_and pt_w (pw_and1 pt_w)).pt
theorem st_and3 (h1 : ST X a ta) (h2 : ST X b tb) (h3 : ST X c tc) : ST X (.BoolOp .And [a, b, c] pos) (mAnd ta (mAnd tb tc)) := (tj_and h1.tj (tj_and h2.tj h3.tj)).st fun _ => (pw_and pt_w (pw_and pt_w (pw_and1 pt_w))).pt
theorem st_or2 (h1 : ST X a ta) (h2 : ST X b tb) : ST X (.BoolOp .Or [a, b] pos) (mOr ta tb) := (tj_or h1.tj h2.tj).st fun _ => (pw_or pt_w (pw_or1 pt_w)).pt
theorem st_or3 (h1 : ST X a ta) (h2 : ST X b tb) (h3 : ST X c tc) : ST X (.BoolOp .Or [a, b, c] pos) (mOr ta (mOr tb tc)) := (tj_or h1.tj (tj_or h2.tj h3.tj)).st fun _ => (pw_or pt_w (pw_or pt_w (pw_or1 pt_w))).pt
theorem st_or4 (h1 : ST X a ta) (h2 : ST X b tb) (h3 : ST X c tc) (h4 : ST X d td) : ST X (.BoolOp .Or [a, b, c, d] pos) (mOr ta (mOr tb (mOr tc td))) :=
  (tj_or h1.tj (tj_or h2.tj (tj_or h3.tj h4.tj))).st fun _ => (pw_or pt_w (pw_or pt_w (pw_or pt_w (pw_or1 pt_w)))).pt
theorem st_not (h : ST X a ta) : ST X (.UnaryOp .Not a pos) (mNot ta) := (tj_not h.tj).st fun _ => pt_not pt_w
theorem st_val (h : SE X e m) (he : ∀ whole, isTrue e X.env whole = (do let v ← whole; standAt e.pos; holding [v] (truthy v)) := by intro _; rfl) : ST X e (mB m) := h.et.st fun E => pt_val (X := X.wish E) pe_w he

theorem et_andV {tf tg : Cx → TE} (h : ET X tf ma) (h' : ET X tg mb) : ET X (fun Y => tAndV (tf Y) (tg Y)) (vAnd ma mb) := fun o σ H G own ρ α r Q c nb hx k => by
  refine h o σ H G own ρ α r _ c (R.bind_nb nb) (Xle.bind.trans hx) fun d ρ1 v1 H1 G1 own1 e1 c1 x1 r1 => ?_
  unfold vAnd at nb hx k
  rw [e1, R.bind_ok] at nb hx k
  cases d with
  | bl b =>
    obtain rfl := r1.bl_inv
    refine ⟨b, rfl, ?_⟩
    cases b with
    | false => exact k _ ρ1 _ H1 G1 own1 rfl c1 x1 rv_bl
    | true => exact h' o σ H1 G1 own1 ρ1 α r Q c1 nb hx fun d' ρ' v' H' G' own' e' c' x' r' => k d' ρ' v' H' G' own' e' c' (x1.trans x') r'
  | _ => exact absurd rfl nb
theorem et_orV {tf tg : Cx → TE} (h : ET X tf ma) (h' : ET X tg mb) : ET X (fun Y => tOrV (tf Y) (tg Y)) (vOr ma mb) := fun o σ H G own ρ α r Q c nb hx k => by
  refine h o σ H G own ρ α r _ c (R.bind_nb nb) (Xle.bind.trans hx) fun d ρ1 v1 H1 G1 own1 e1 c1 x1 r1 => ?_
  unfold vOr at nb hx k
  rw [e1, R.bind_ok] at nb hx k
  cases d with
  | bl b =>
    obtain rfl := r1.bl_inv
    refine ⟨b, rfl, ?_⟩
    cases b with
    | true => exact k _ ρ1 _ H1 G1 own1 rfl c1 x1 rv_bl
    | false => exact h' o σ H1 G1 own1 ρ1 α r Q c1 nb hx fun d' ρ' v' H' G' own' e' c' x' r' => k d' ρ' v' H' G' own' e' c' (x1.trans x') r'
  | _ => exact absurd rfl nb
theorem et_notV {tf : Cx → TE} (h : ET X tf ma) : ET X (fun Y => tNotV (tf Y)) (vNot ma) := fun o σ H G own ρ α r Q c nb hx k => by
  refine h o σ H G own ρ α r _ c (R.bind_nb nb) (Xle.bind.trans hx) fun d ρ1 v1 H1 G1 own1 e1 c1 x1 r1 => ?_
  unfold vNot at nb hx k
  rw [e1, R.bind_ok] at nb hx k
  cases d with
  | bl b =>
    obtain rfl := r1.bl_inv
    exact ⟨b, rfl, k _ ρ1 _ H1 G1 own1 rfl c1 x1 rv_bl⟩
  | _ => exact absurd rfl nb
theorem se_and2 (h1 : SE X a ma) (h2 : SE X b mb) : SE X (.BoolOp .And [a, b] pos) (vAnd ma mb) := (et_andV h1.et h2.et).se fun _ => pe_and pe_w (pe_one pe_w)
theorem se_and3 (h1 : SE X a ma) (h2 : SE X b mb) (h3 : SE X c mc) : SE X (.BoolOp .And [a, b, c] pos) (vAnd ma (vAnd mb mc)) := (et_andV h1.et (et_andV h2.et h3.et)).se fun _ => pe_and pe_w (pe_and pe_w (pe_one pe_w))
theorem se_or2 (h1 : SE X a ma) (h2 : SE X b mb) : SE X (.BoolOp .Or [a, b] pos) (vOr ma mb) := (et_orV h1.et h2.et).se fun _ => pe_or pe_w (pe_one pe_w)
theorem se_not (h1 : SE X a ma) : SE X (.UnaryOp .Not a pos) (vNot ma) := (et_notV h1.et).se fun _ => pe_not pe_w
theorem se_if (h : ST X c tc) (h1 : SE X a ma) (h2 : SE X b mb) : SE X (.IfExp c a b pos) (mIf tc ma mb) := by
  refine ET.se (tf := fun Y => tIf (wT Y c) (wE Y a) (wE Y b)) (fun o σ H G own ρ α r Q cf nb hx k => ?_) fun _ => pe_ifExp pt_w pe_w pe_w
  refine h.tj o σ H G own ρ α r _ cf (R.bind_nb nb) (Xle.bind.trans hx) fun b ρ1 H1 G1 own1 e1 c1 x1 => ?_
  unfold mIf at nb hx k
  rw [e1, R.bind_ok] at nb hx k
  cases b with
  | true => exact h1.we c1 nb hx fun d' ρ' v' H' G' own' e' c' x' r' => k d' ρ' v' H' G' own' e' c' (x1.trans x') r'
  | false => exact h2.we c1 nb hx fun d' ρ' v' H' G' own' e' c' x' r' => k d' ρ' v' H' G' own' e' c' (x1.trans x') r'
end

/-! ### subscripts -/
def keyD : D → Option Key
  | .int i => some (.inl i)
  | .str x => some (.inr x)
  | _ => none
def valK (ks : List Key) (vs : List D) (k : Key) : Option D := ((ks.zip vs).find? fun kv => decide (kv.1 = k)).map (·.2)
def ixD : D → D → Option D
  | .tup l, .int i => atI l i
  | .lst l, .int i => atI l i
  | .str z, .int i => if z.length ≤ sizeLine then (atI z.cps.toList i).map fun c => .str ⟨#[c]⟩ else none
  | .dic ks vs, k => (keyD k).bind (valK ks vs)
  | _, _ => none
section
variable {K : PySem.W.Frag} {H G : Hp}
theorem keyD_rv {d : D} {v : V} {k : Key} (h : RV K G d v) (e : keyD d = some k) : v = kV k := by
  cases d with
  | int i => cases e; exact h.int_inv
  | str i => cases e; exact h.str_inv
  | _ => cases e
theorem atI_rv {l : List D} {xs : List V} {i : Int} {d : D} (h : RVs K G l xs) (e : atI l i = some d) : ∃ v, atI xs i = some v ∧ RV K G d v := by
  unfold atI at e ⊢
  rw [← h.length]
  obtain ⟨j, h1, h2⟩ := Option.bind_eq_some_iff.mp e
  obtain ⟨v, h3, h4⟩ := h.get h2
  exact ⟨v, by rw [h1]; exact h3, h4⟩
theorem valK_rv {k : Key} : ∀ {kvs : List (Key × V)} {vs : List D}, RVs K G vs (kvs.map (·.2)) → (match valK (kvs.map (·.1)) vs k, valV kvs k with
    | some d, some v => RV K G d v
    | none, none => True
    | _, _ => False)
  | [], vs, h => by simp [valK, valV]
  | p :: kvs, [], h => by
    have := h.inv_nil
    simp at this
  | p :: kvs, d :: vs, h => by
    obtain ⟨x, r, e1, h1, h2⟩ := h.inv_cons
    simp only [List.map_cons, List.cons.injEq] at e1
    obtain ⟨rfl, rfl⟩ := e1
    have ih := valK_rv (k := k) h2
    by_cases e : p.1 = k
    · have a1 : valK ((p :: kvs).map (·.1)) (d :: vs) k = some d := by simp [valK, e]
      have a2 : valV (p :: kvs) k = some p.2 := valV_pos e
      rw [a1, a2]
      exact h1
    · have a1 : valK ((p :: kvs).map (·.1)) (d :: vs) k = valK (kvs.map (·.1)) vs k := by simp [valK, e]
      have a2 : valV (p :: kvs) k = valV kvs k := valV_neg e
      rw [a1, a2]
      exact ih
theorem valK_some {k : Key} {kvs : List (Key × V)} {vs : List D} {d : D} (h : RVs K G vs (kvs.map (·.2))) (e : valK (kvs.map (·.1)) vs k = some d) : ∃ v, valV kvs k = some v ∧ RV K G d v := by
  have q := valK_rv (k := k) h
  rw [e] at q
  cases z : valV kvs k with
  | none => rw [z] at q; exact q.elim
  | some v => rw [z] at q; exact ⟨v, rfl, q⟩
end
section
variable {X : Cx} {o : Orig} {σ : St} {H G : Hp} {own : Own} {ρ : Env} {e a b c d f : Expr} {m ma mb mc : ME} {ta tb tc td tf' : MT} {q qa qb : Env → Option C} {pos : Pos}
theorem ix_dict (hu : X.A.units + 1 < cLine) : IxR X (fun x y H Q => ∃ a v, x = .ref a ∧ DGet H a y (some v) ∧ Q v H) := by
  intro value slice pins s σ H x y v u Q I rx ry h hs
  obtain ⟨a, w, rfl, g, q⟩ := h
  cases rx
  exact tail_any (dict_typeIs I g) PySem.F.slot_dict_getitem.lookup (d_getItem hu I g ry fun w' s' I' r => ⟨w, H, I', r, q⟩) hs
theorem ixt (hu : X.A.units + 100 < cLine) {E : Value → Shared → Prop} {dx dy dd : D} {x y : V} (hx : TopH X.K H G dx x) (hy : RV X.K G dy y) (h : ixD dx dy = some dd) {Q : VK} (k : ∀ z, RV X.K G dd z → Q z H) : anyI (X.wish E) x y H Q := by
  unfold ixD at h
  split at h
  · obtain ⟨a, xs, rfl, h1, h2, _⟩ := hx
    obtain rfl := hy.int_inv
    obtain ⟨v, h3, h4⟩ := atI_rv h2 h
    exact ⟨_, ix_tup, a, xs, _, v, rfl, rfl, h1, h3, k v h4⟩
  · obtain ⟨a, xs, rfl, h1, h2⟩ := hx
    obtain rfl := hy.int_inv
    obtain ⟨v, h3, h4⟩ := atI_rv h2 h
    exact ⟨_, ix_list, a, xs, _, v, rfl, rfl, .inl h1, h3, k v h4⟩
  · split at h
    · rename_i hz
      obtain ⟨c, h1, h2⟩ := Option.map_eq_some_iff.mp h
      obtain rfl : x = .str _ := hx
      obtain rfl := hy.int_inv
      subst h2
      exact ⟨_, ix_str, _, _, c, rfl, rfl, hz, h1, k _ rv_str⟩
    · cases h
  · obtain ⟨kk, h1, h2⟩ := Option.bind_eq_some_iff.mp h
    obtain ⟨a, kvs, rfl, h3, h4, h5⟩ := hx
    subst h4
    obtain rfl := keyD_rv hy h1
    obtain ⟨v, h6, h7⟩ := valK_some h5 h2
    refine ⟨_, ix_dict (X := X.wish E) (show X.A.units + 1 < cLine by omega), a, v, rfl, ?_, k v h7⟩
    rw [← h6]
    exact .inl ⟨kvs, kk, h3, rfl, rfl⟩
  · cases h
def mIx (ma mb : ME) : ME := fun ρ => (ma ρ).bind fun x ρ1 => (mb ρ1).bind fun y ρ2 => opt (ixD x y) ρ2
theorem se_ix (hu : X.A.units + 100 < cLine) (ha : SE X a ma) (hb : SE X b mb) (hs : PlainIx b := by intro _ _; rfl) : SE X (.Subscript a b pos) (mIx ma mb) :=
  ET.se (tf := fun Y => tOp (anyI Y) (wE Y a) (wE Y b)) (fun o σ H G own ρ α r Q c nb hx k => use2 ha hb rfl c nb hx fun d1 d2 ρ2 v1 v2 H2 G2 own2 nb2 e c2 x r1 r2 => by
    obtain ⟨d, e1, e2⟩ := opt_nb nb2
    exact ixt hu (r1.top c2.good) r2 e1 fun z rz => k d ρ2 z H2 G2 own2 (e.trans e2) c2 x rz) fun _ => pe_ix ix_any pe_w pe_w hs
def qIx (qa qb : Env → Option C) : Env → Option C := fun ρ => match qa ρ, qb ρ with
  | some x, some (.v y) => (ixD x.frz y).map .v
  | _, _ => none
theorem sq_ix (hu : X.A.units + 100 < cLine) (ha : SQ X a qa) (hb : SQ X b qb) (hs : PlainIx b := by intro _ _; rfl) : SQ X (.Subscript a b pos) (qIx qa qb) := by
  intro E o σ H G own ρ c cf hq
  refine .sh fun pins s I => ?_
  unfold qIx at hq
  split at hq
  · rename_i x y e1 e2
    obtain ⟨d, e3, e4⟩ := Option.map_eq_some_iff.mp hq
    refine (pe_ix (X := X.wish E) ix_any pe_w pe_w hs).run pins s σ H _ I ?_
    refine wE_mono (ha E o σ H G own ρ _ cf e1) (fun v H' ⟨z, r⟩ => ?_) fun _ _ x => x
    subst z
    refine wE_mono (hb E o σ _ G own ρ _ cf e2) (fun v' H'' ⟨z, r'⟩ => ?_) fun _ _ x => x
    subst z
    exact ixt hu (r.top cf.good) r' e3 fun z rz => ⟨rfl, by rw [← e4]; exact rz⟩
  · cases hq
/-! ### in -/
def scalD : D → Bool
  | .non => true | .bl _ => true | .int _ => true | .str _ => true
  | _ => false
def vD : D → V
  | .bl b => .bl b | .int i => .int i | .str x => .str x
  | _ => .non
theorem vD_rv {K : PySem.W.Frag} {G : Hp} {d : D} {v : V} (h : RV K G d v) (e : scalD d = true) : v = vD d := by
  cases d with
  | non => exact h.non_inv
  | bl b => exact h.bl_inv
  | int b => exact h.int_inv
  | str b => exact h.str_inv
  | _ => cases e
theorem vDs_rv {K : PySem.W.Frag} {G : Hp} : ∀ {l : List D} {xs : List V}, RVs K G l xs → l.all scalD = true → xs = l.map vD
  | [], xs, h, _ => h.inv_nil
  | d :: l, xs, h, e => by
    obtain ⟨x, r, rfl, h1, h2⟩ := h.inv_cons
    rw [List.all_cons, Bool.and_eq_true] at e
    rw [vD_rv h1 e.1, vDs_rv h2 e.2]; rfl
theorem vD_flat {d : D} : flatV (vD d) = true := by cases d <;> rfl
theorem vD_flats : ∀ {l : List D}, (l.map vD).all flatV = true
  | [] => rfl
  | d :: l => by rw [List.map_cons, List.all_cons, vD_flat, vD_flats]; rfl
def inB : D → D → Option Bool
  | x, .tup l => if scalD x = true ∧ l.all scalD = true then some (inV (vD x) (l.map vD)) else none
  | x, .lst l => if scalD x = true ∧ l.all scalD = true then some (inV (vD x) (l.map vD)) else none
  | .str a, .str z => match a.cps.toList with
    | [c] => some (decide (c ∈ z.cps.toList))
    | _ => none
  | k, .dic ks vs => (keyD k).map fun kk => (valK ks vs kk).isSome
  | _, _ => none
def inD (x y : D) : Option D := (inB x y).map .bl
def niD (x y : D) : Option D := (inB x y).map fun b => .bl (!b)
theorem dget_in {K : PySem.W.Frag} {kvs : List (Key × V)} {vs : List D} {k : Key} (h : RVs K G vs (kvs.map (·.2))) : (valK (kvs.map (·.1)) vs k).isSome = (valV kvs k).isSome := by
  have q := valK_rv (k := k) h
  cases e1 : valK (kvs.map (·.1)) vs k <;> cases e2 : valV kvs k <;> rw [e1, e2] at q <;> first | rfl | exact q.elim
theorem op_dIn (hu : X.A.units + 1 < cLine) : OpR X (compareOp .In) (fun y x H Q => ∃ a o, x = .ref a ∧ DGet H a y o ∧ Q (.bl o.isSome) H) := by
  intro pins s σ H x y v u Q I rx ry h
  obtain ⟨a, o, rfl, g, q⟩ := h
  cases ry
  exact d_in hu I g rx fun s' I' => ⟨.bl _, H, I', rfl, q⟩
theorem op_dNi (hu : X.A.units + 1 < cLine) : OpR X (compareOp .NotIn) (fun y x H Q => ∃ a o, x = .ref a ∧ DGet H a y o ∧ Q (.bl (!o.isSome)) H) := by
  intro pins s σ H x y v u Q I rx ry h
  obtain ⟨a, o, rfl, g, q⟩ := h
  cases ry
  exact d_notIn hu I g rx fun s' I' => ⟨.bl _, H, I', rfl, q⟩
theorem str_one {a : Str} {c : Nat} (h : a.cps.toList = [c]) : a = ⟨#[c]⟩ := by
  obtain ⟨⟨l⟩⟩ := a
  simp at h
  subst h
  rfl
theorem opt_in (hu : X.A.units + 100 < cLine) : OpT X (compareOp .In) inD := by
  intro E o σ H G own ρ dx dy d x y c hx hy h
  obtain ⟨bb, h1, h2⟩ := Option.map_eq_some_iff.mp h
  subst h2
  unfold inB at h1
  split at h1
  · split at h1
    · rename_i hs
      obtain ⟨a, xs, rfl, h3, h4, _⟩ := hy
      have e1 := vD_rv hx hs.1
      have e2 := vDs_rv h4 hs.2
      subst e1 e2
      cases h1
      exact ⟨_, op_in_seq (X := X.wish E), a, _, rfl, .inr h3, vD_flat, vD_flats, okd_pure c rv_bl⟩
    · cases h1
  · split at h1
    · rename_i hs
      obtain ⟨a, xs, rfl, h3, h4⟩ := hy
      have e1 := vD_rv hx hs.1
      have e2 := vDs_rv h4 hs.2
      subst e1 e2
      cases h1
      exact ⟨_, op_in_seq (X := X.wish E), a, _, rfl, .inl (.inl h3), vD_flat, vD_flats, okd_pure c rv_bl⟩
    · cases h1
  · split at h1
    · rename_i cc e
      cases h1
      obtain rfl : y = .str _ := hy
      obtain rfl := hx.str_inv
      exact ⟨_, op_inS, cc, _, by rw [str_one e], rfl, okd_pure c rv_bl⟩
    · cases h1
  · obtain ⟨kk, h3, h4⟩ := Option.map_eq_some_iff.mp h1
    obtain ⟨a, kvs, rfl, h5, h6, h7⟩ := hy
    subst h6 h4
    obtain rfl := keyD_rv hx h3
    rw [dget_in h7]
    exact ⟨_, op_dIn (X := X.wish E) (show X.A.units + 1 < cLine by omega), a, _, rfl, .inl ⟨kvs, kk, h5, rfl, rfl⟩, okd_pure c rv_bl⟩
  · cases h1
theorem opt_ni (hu : X.A.units + 100 < cLine) : OpT X (compareOp .NotIn) niD := by
  intro E o σ H G own ρ dx dy d x y c hx hy h
  obtain ⟨bb, h1, h2⟩ := Option.map_eq_some_iff.mp h
  subst h2
  unfold inB at h1
  split at h1
  · split at h1
    · rename_i hs
      obtain ⟨a, xs, rfl, h3, h4, _⟩ := hy
      have e1 := vD_rv hx hs.1
      have e2 := vDs_rv h4 hs.2
      subst e1 e2
      cases h1
      exact ⟨_, op_notIn_seq (X := X.wish E), a, _, rfl, .inr h3, vD_flat, vD_flats, okd_pure c rv_bl⟩
    · cases h1
  · split at h1
    · rename_i hs
      obtain ⟨a, xs, rfl, h3, h4⟩ := hy
      have e1 := vD_rv hx hs.1
      have e2 := vDs_rv h4 hs.2
      subst e1 e2
      cases h1
      exact ⟨_, op_notIn_seq (X := X.wish E), a, _, rfl, .inl (.inl h3), vD_flat, vD_flats, okd_pure c rv_bl⟩
    · cases h1
  · split at h1
    · rename_i cc e
      cases h1
      obtain rfl : y = .str _ := hy
      obtain rfl := hx.str_inv
      exact ⟨_, op_notInS, cc, _, by rw [str_one e], rfl, okd_pure c rv_bl⟩
    · cases h1
  · obtain ⟨kk, h3, h4⟩ := Option.map_eq_some_iff.mp h1
    obtain ⟨a, kvs, rfl, h5, h6, h7⟩ := hy
    subst h6 h4
    obtain rfl := keyD_rv hx h3
    rw [dget_in h7]
    exact ⟨_, op_dNi (X := X.wish E) (show X.A.units + 1 < cLine by omega), a, _, rfl, .inl ⟨kvs, kk, h5, rfl, rfl⟩, okd_pure c rv_bl⟩
  · cases h1
end
end DL

set_option maxRecDepth 100000
set_option maxHeartbeats 2000000
namespace DL
open PySem PySem.Spec L2
open PyProof.Rows hiding St

/-! ### lists of values -/
abbrev MA := Env → R (List D)
def SA (X : Cx) (es : List Expr) (m : MA) : Prop := ∀ o σ H G own ρ (α : Type) (r : R α) (Q : List V → Hp → Prop), Cfg X.K o σ H G own ρ → m ρ ≠ .bad → Xle (m ρ) r →
  (∀ l ρ' vs H' G' own', m ρ = .ok l ρ' → Cfg X.K o σ H' G' own' ρ' → Ext G G' → RVs X.K G' l vs → Q vs H') → ∃ t : TA, PA (Cx.to X o r) es t ∧ t σ H Q
def mNil : MA := fun ρ => .ok [] ρ
def mCons (me : ME) (ma : MA) : MA := fun ρ => (me ρ).bind fun d ρ1 => (ma ρ1).bind fun l ρ2 => .ok (d :: l) ρ2
def mStar (me : ME) (ma : MA) : MA := fun ρ => (me ρ).bind fun d ρ1 => match d with
  | .tup l => (ma ρ1).bind fun r ρ2 => .ok (l ++ r) ρ2
  | .lst l => (ma ρ1).bind fun r ρ2 => .ok (l ++ r) ρ2
  | _ => .bad
section
variable {X : Cx} {o : Orig} {σ : St} {H G : Hp} {own : Own} {ρ : Env} {e a b c d f : Expr} {es : List Expr} {m ma mb mc : ME} {mas : MA} {ta tb tc td tf' : MT} {q qa qb : Env → Option C} {pos p : Pos} {x : Str}
theorem paW {Y : Cx} {es : List Expr} {t : TA} (h : PA Y es t) {σ : St} {H : Hp} {Q : List V → Hp → Prop} (q : t σ H Q) : wA Y es σ H Q := .sh fun pos pins s I => h.run pos pins s σ H Q I q
theorem SA.wa {α : Type} {r : R α} {Q : List V → Hp → Prop} (h : SA X es mas) (c : Cfg X.K o σ H G own ρ) (nb : mas ρ ≠ .bad) (hx : Xle (mas ρ) r)
    (k : ∀ l ρ' vs H' G' own', mas ρ = .ok l ρ' → Cfg X.K o σ H' G' own' ρ' → Ext G G' → RVs X.K G' l vs → Q vs H') : wA (Cx.to X o r) es σ H Q := by
  obtain ⟨t, ht, q⟩ := h o σ H G own ρ α r Q c nb hx k
  exact paW ht q
theorem sa_nil : SA X [] mNil := fun o σ H G own ρ α r Q c nb hx k => ⟨_, pa_nil, k [] ρ [] H G own rfl c Ext.rfl' .nil⟩
theorem sa_cons (h : SE X e m) (t : SA X es mas) (hs : starEach (e :: es) X.env = (false, eval e X.env) :: starEach es X.env := by rfl) : SA X (e :: es) (mCons m mas) := fun o σ H G own ρ α r Q c nb hx k => ⟨_, pa_cons (X := Cx.to X o r) pe_w pa_w hs, by
  refine h.we c (R.bind_nb nb) (Xle.bind.trans hx) fun d1 ρ1 v1 H1 G1 own1 e1 c1 x1 r1 => ?_
  unfold mCons at nb hx k
  rw [e1, R.bind_ok] at nb hx k
  refine t.wa c1 (R.bind_nb nb) (Xle.bind.trans hx) fun l ρ2 vs H2 G2 own2 e2 c2 x2 r2 => ?_
  rw [e2, R.bind_ok] at nb hx k
  exact k _ ρ2 _ H2 G2 own2 rfl c2 (x1.trans x2) (.cons (RV.mono x2 _ _ r1) r2)⟩
theorem sa_star (h : SE X e m) (t : SA X es mas) (hs : starEach (.Starred e p :: es) X.env = (true, eval e X.env) :: starEach es X.env := by rfl) : SA X (.Starred e p :: es) (mStar m mas) := fun o σ H G own ρ α r Q c nb hx k => ⟨_, StX.pa_star (X := Cx.to X o r) pe_w pa_w hs, by
  refine h.we c (R.bind_nb nb) (Xle.bind.trans hx) fun d1 ρ1 v1 H1 G1 own1 e1 c1 x1 r1 => ?_
  unfold mStar at nb hx k
  rw [e1, R.bind_ok] at nb hx k
  cases d1 with
  | tup l =>
    obtain ⟨pp, xs, rfl, h1, h2⟩ := r1.tup_inv
    refine ⟨pp, xs, rfl, .inl (c1.good.tup h1), ?_⟩
    refine t.wa c1 (R.bind_nb nb) (Xle.bind.trans hx) fun l2 ρ2 vs H2 G2 own2 e2 c2 x2 r2 => ?_
    dsimp only at nb hx k
    rw [e2, R.bind_ok] at nb hx k
    exact k _ ρ2 _ H2 G2 own2 rfl c2 (x1.trans x2) ((RVs.mono x2 _ _ h2).append r2)
  | lst l =>
    obtain ⟨pp, xs, rfl, h1, h2⟩ := r1.lst_inv
    refine ⟨pp, xs, rfl, .inr (c1.good.lst h1), ?_⟩
    refine t.wa c1 (R.bind_nb nb) (Xle.bind.trans hx) fun l2 ρ2 vs H2 G2 own2 e2 c2 x2 r2 => ?_
    dsimp only at nb hx k
    rw [e2, R.bind_ok] at nb hx k
    exact k _ ρ2 _ H2 G2 own2 rfl c2 (x1.trans x2) ((RVs.mono x2 _ _ h2).append r2)
  | _ => exact absurd rfl nb⟩
def mTup (ma : MA) : ME := fun ρ => (ma ρ).bind fun l ρ1 => if l.length ≤ sizeLine then .ok (.tup l) ρ1 else .bad
def mLst (ma : MA) : ME := fun ρ => (ma ρ).bind fun l ρ1 => if l.length ≤ sizeLine then .ok (.lst l) ρ1 else .bad
theorem se_tup {x1 : Nat} (h : SA X es mas) : SE X (.Tuple es x1 pos) (mTup mas) := SE.of fun o σ H G own ρ c nb => ⟨_, pe_tupP (X := Cx.to X o _) pa_w, by
  refine h.wa c (R.bind_nb nb) Xle.bind fun l ρ1 vs H1 G1 own1 e1 c1 x1 r1 => ?_
  unfold mTup at nb ⊢
  rw [e1, R.bind_ok] at nb ⊢
  by_cases hz : l.length ≤ sizeLine
  · refine ⟨by rw [← r1.length]; exact hz, fun p ob hp ho => ?_⟩
    obtain ⟨G', own', c', x', rv⟩ := okd_tup (o := o) (σ := σ) (ρ := ρ1) c1 r1 hp ho
    exact ⟨_, ρ1, G', own', if_pos hz, c', x1.trans x', rv⟩
  · rw [if_neg hz] at nb; exact absurd rfl nb⟩
theorem se_lst (h : SA X es mas) : SE X (.List es pos) (mLst mas) := SE.of fun o σ H G own ρ c nb => ⟨_, pe_lst (X := Cx.to X o _) pa_w, by
  refine h.wa c (R.bind_nb nb) Xle.bind fun l ρ1 vs H1 G1 own1 e1 c1 x1 r1 => ?_
  unfold mLst at nb ⊢
  rw [e1, R.bind_ok] at nb ⊢
  by_cases hz : l.length ≤ sizeLine
  · refine ⟨by rw [← r1.length]; exact hz, fun p hp => ?_⟩
    obtain ⟨G', own', c', x', rv⟩ := okd_lst (o := o) (σ := σ) (ρ := ρ1) c1 r1 hp
    exact ⟨_, ρ1, G', own', if_pos hz, c', x1.trans x', rv⟩
  · rw [if_neg hz] at nb; exact absurd rfl nb⟩

/-! ### calls of built-ins -/
def CallX (X : Cx) (f : Value) (fd : List D → Option D) : Prop :=
  ∀ (E : Value → Shared → Prop) o σ H G own ρ l d vs, Cfg X.K o σ H G own ρ → RVs X.K G l vs → fd l = some d → ∃ r, CallR (X.wish E) f r ∧ r vs H (OkD X.K o σ ρ G d)
def CallT (X : Cx) (f : Value) (fd : D → Option D) : Prop :=
  ∀ (E : Value → Shared → Prop) o σ H G own ρ dx d v, Cfg X.K o σ H G own ρ → TopH X.K H G dx v → fd dx = some d → ∃ r, CallR (X.wish E) f r ∧ r [v] H (OkD X.K o σ ρ G d)
def mCB (fd : List D → Option D) (ma : MA) : ME := fun ρ => (ma ρ).bind fun l ρ1 => opt (fd l) ρ1
def mC1 (fd : D → Option D) (ma : ME) : ME := fun ρ => (ma ρ).bind fun l ρ1 => opt (fd l) ρ1
theorem anyc_of {F : Value} {Y : Cx} {r : List V → Hp → VK → Prop} {vs : List V} {H : Hp} {Q Q' : VK} (hr : CallR Y F r) (h : r vs H Q) (k : ∀ z H', Q z H' → Q' z H') : anyC Y F vs H Q' :=
  ⟨fun vs H Q => ∃ Q', r vs H Q' ∧ ∀ z H', Q' z H' → Q z H', fun pins s σ H xs us Q I rx ⟨Q', h1, h2⟩ => thn (hr pins s σ H xs us Q' I rx h1) fun _ _ ⟨z, H', I', r', q'⟩ => ⟨z, H', I', r', h2 _ _ q'⟩, Q, h, k⟩
theorem et_cb {F : Value} {fd : List D → Option D} (hc : CallX X F fd) (ha : SA X es mas) : ET X (fun Y => tCB (anyC Y F) (wA Y es)) (mCB fd mas) := fun o σ H G own ρ α r Q c nb hx k => by
  refine ha.wa c (R.bind_nb nb) (Xle.bind.trans hx) fun l ρ1 vs H1 G1 own1 e1 c1 x1 r1 => ?_
  unfold mCB at nb hx k
  rw [e1, R.bind_ok] at nb hx k
  obtain ⟨d, e3, e4⟩ := opt_nb nb
  obtain ⟨r', hr, hq⟩ := hc (XE X (WO X.K o r)) o σ H1 G1 own1 ρ1 l d vs c1 r1 e3
  exact anyc_of hr hq fun z H' ⟨G', own', c', x', rv⟩ => k d ρ1 z H' G' own' e4 c' (x1.trans x') rv
theorem et_c1 {F : Value} {fd : D → Option D} (hc : CallT X F fd) (ha : SR X a ma) : ET X (fun Y => tCB (anyC Y F) (tCons (wE Y a) tNil)) (mC1 fd ma) := fun o σ H G own ρ α r Q c nb hx k => by
  refine ha.we c (R.bind_nb nb) (Xle.bind.trans hx) fun l ρ1 v H1 G1 own1 e1 c1 x1 r1 => ?_
  unfold mC1 at nb hx k
  rw [e1, R.bind_ok] at nb hx k
  obtain ⟨d, e3, e4⟩ := opt_nb nb
  obtain ⟨r', hr, hq⟩ := hc (XE X (WO X.K o r)) o σ H1 G1 own1 ρ1 l d v c1 r1 e3
  exact anyc_of hr hq fun z H' ⟨G', own', c', x', rv⟩ => k d ρ1 z H' G' own' e4 c' (x1.trans x') rv
/-- f(e, ..), f a built-in function -/
theorem se_cb {id : String} {fd : List D → Option D} (hc : CallX X (.builtin id) fd) (hg : Gl X x) (hm : X.mg x = none) (hv : bootBuiltins x = some (.builtin id)) (ha : SA X (e :: es) mas) (hn : x ≠ "__name__" := by decide) (hdb : (x == ("__debug__" : Str)) = false := by decide)
    (he : starEach (e :: es) X.env = (false, eval e X.env) :: starEach es X.env := by rfl) (hpl : (backTo pos (starEach es X.env)).any (·.1) = false := by rfl) : SE X (.Call (.Name x p) (e :: es) [] pos) (mCB fd mas) :=
  (et_cb hc ha).se fun E => pe_callB (X := X.wish E) call_any hg hm hv pa_w hn hdb he hpl
theorem se_cty {T : String} {fd : List D → Option D} (hc : CallX X (.type T) fd) (hg : Gl X x) (hm : X.mg x = none) (hv : bootBuiltins x = some (.type T)) (ha : SA X (e :: es) mas) (hn : x ≠ "__name__" := by decide) (hdb : (x == ("__debug__" : Str)) = false := by decide)
    (he : starEach (e :: es) X.env = (false, eval e X.env) :: starEach es X.env := by rfl) (hpl : (backTo pos (starEach es X.env)).any (·.1) = false := by rfl) : SE X (.Call (.Name x p) (e :: es) [] pos) (mCB fd mas) :=
  (et_cb hc ha).se fun E => pe_callTy (X := X.wish E) call_any hg hm hv pa_w hn hdb he hpl
/-- .. of one readable argument -/
theorem se_cb1 {id : String} {fd : D → Option D} (hc : CallT X (.builtin id) fd) (hg : Gl X x) (hm : X.mg x = none) (hv : bootBuiltins x = some (.builtin id)) (ha : SR X e ma) (hn : x ≠ "__name__" := by decide) (hdb : (x == ("__debug__" : Str)) = false := by decide)
    (he : starEach [e] X.env = (false, eval e X.env) :: starEach [] X.env := by rfl) (hpl : (backTo pos (starEach [] X.env)).any (·.1) = false := by rfl) : SE X (.Call (.Name x p) [e] [] pos) (mC1 fd ma) :=
  (et_c1 hc ha).se fun E => pe_callB (X := X.wish E) call_any hg hm hv (pa_cons pe_w pa_nil he) hn hdb he hpl
theorem se_cty1 {T : String} {fd : D → Option D} (hc : CallT X (.type T) fd) (hg : Gl X x) (hm : X.mg x = none) (hv : bootBuiltins x = some (.type T)) (ha : SR X e ma) (hn : x ≠ "__name__" := by decide) (hdb : (x == ("__debug__" : Str)) = false := by decide)
    (he : starEach [e] X.env = (false, eval e X.env) :: starEach [] X.env := by rfl) (hpl : (backTo pos (starEach [] X.env)).any (·.1) = false := by rfl) : SE X (.Call (.Name x p) [e] [] pos) (mC1 fd ma) :=
  (et_c1 hc ha).se fun E => pe_callTy (X := X.wish E) call_any hg hm hv (pa_cons pe_w pa_nil he) hn hdb he hpl

def lenD : D → Option D
  | .str z => if z.length ≤ sizeLine then some (.int z.length) else none
  | .tup l => some (.int l.length)
  | .lst l => some (.int l.length)
  | _ => none
theorem callR_lenR : CallR X (.builtin "len") (fun xs H Q => ∃ p ys, xs = [.ref p] ∧ (SqL X.K H p ys ∨ SqT X.K H p ys) ∧ Q (.int ys.length) H) := call_len_seq
theorem ct_len : CallT X (.builtin "len") lenD := by
  intro E o σ H G own ρ dx d v c hx h
  unfold lenD at h
  split at h
  · split at h
    · rename_i hz
      cases h
      obtain rfl : v = .str _ := hx
      exact ⟨_, call_len_str (X := X.wish E), _, rfl, hz, okd_pure c rv_int⟩
    · cases h
  · cases h
    obtain ⟨a, xs, rfl, h1, h2, _⟩ := hx
    exact ⟨_, call_len_seq (X := X.wish E), a, xs, rfl, .inr h1, by rw [← h2.length]; exact okd_pure c rv_int⟩
  · cases h
    obtain ⟨a, xs, rfl, h1, h2⟩ := hx
    exact ⟨_, call_len_seq (X := X.wish E), a, xs, rfl, .inl (.inl h1), by rw [← h2.length]; exact okd_pure c rv_int⟩
  · cases h
def kD : Key → D
  | .inl i => .int i
  | .inr x => .str x
theorem kD_rv {K : PySem.W.Frag} {G : Hp} {k : Key} : RV K G (kD k) (kV k) := by
  cases k
  · exact rv_int
  · exact rv_str
theorem kDs_rv {K : PySem.W.Frag} {G : Hp} : ∀ {kvs : List (Key × V)}, RVs K G ((kvs.map (·.1)).map kD) (kvs.map fun kv => kV kv.1)
  | [] => .nil
  | p :: r => .cons kD_rv kDs_rv
def listD : D → Option D
  | .tup l => some (.lst l)
  | .lst l => some (.lst l)
  | .dic ks _ => some (.lst (ks.map kD))
  | _ => none
theorem ct_list (hc : X.calm = true) : CallT X (.type "list") listD := by
  intro E o σ H G own ρ dx d v c hx h
  unfold listD at h
  split at h
  · cases h
    obtain ⟨a, xs, rfl, h1, h2, _⟩ := hx
    exact ⟨_, call_list_of (X := X.wish E), a, xs, rfl, .inr h1, fun p hp => okd_lst c h2 hp⟩
  · cases h
    obtain ⟨a, xs, rfl, h1, h2⟩ := hx
    exact ⟨_, call_list_of (X := X.wish E), a, xs, rfl, .inl (.inl h1), fun p hp => okd_lst c h2 hp⟩
  · cases h
    obtain ⟨a, kvs, rfl, h1, h2, h3⟩ := hx
    subst h2
    exact ⟨_, call_listD (X := X.wish E) hc, a, kvs, rfl, h1, fun p hp => okd_lst c kDs_rv hp⟩
  · cases h
def tupleD : D → Option D
  | .lst l => some (.tup l)
  | _ => none
theorem ct_tuple : CallT X (.type "tuple") tupleD := by
  intro E o σ H G own ρ dx d v c hx h
  unfold tupleD at h
  split at h
  · cases h
    obtain ⟨a, xs, rfl, h1, h2⟩ := hx
    exact ⟨_, call_tupleP (X := X.wish E), a, xs, rfl, .inl ⟨.inl h1, fun p ob hp ho => okd_tup c h2 hp ho⟩⟩
  · cases h
theorem RVs.one {K : PySem.W.Frag} {G : Hp} {d : D} {vs : List V} (h : RVs K G [d] vs) : ∃ v, vs = [v] ∧ RV K G d v := by
  obtain ⟨v, r, rfl, h1, h2⟩ := h.inv_cons
  exact ⟨v, by rw [h2.inv_nil], h1⟩
theorem RVs.two {K : PySem.W.Frag} {G : Hp} {d e : D} {vs : List V} (h : RVs K G [d, e] vs) : ∃ v w, vs = [v, w] ∧ RV K G d v ∧ RV K G e w := by
  obtain ⟨v, r, rfl, h1, h2⟩ := h.inv_cons
  obtain ⟨w, rfl, h3⟩ := h2.one
  exact ⟨v, w, rfl, h1, h3⟩
def maxD : List D → Option D
  | [.int i, .int j] => some (.int (if j > i then j else i))
  | _ => none
def minD : List D → Option D
  | [.int i, .int j] => some (.int (if j < i then j else i))
  | _ => none
def intD : List D → Option D
  | [.int i] => some (.int i)
  | [.bl k] => some (.int (if k then 1 else 0))
  | _ => none
theorem cx_max (hc : X.calm = true) : CallX X (.builtin "max") maxD := by
  intro E o σ H G own ρ l d vs c hx h
  unfold maxD at h
  split at h
  · cases h
    obtain ⟨v, w, rfl, h1, h2⟩ := hx.two
    obtain rfl := h1.int_inv
    obtain rfl := h2.int_inv
    exact ⟨_, call_max2 (X := X.wish E) hc, _, _, rfl, okd_pure c rv_int⟩
  · cases h
theorem cx_min (hc : X.calm = true) : CallX X (.builtin "min") minD := by
  intro E o σ H G own ρ l d vs c hx h
  unfold minD at h
  split at h
  · cases h
    obtain ⟨v, w, rfl, h1, h2⟩ := hx.two
    obtain rfl := h1.int_inv
    obtain rfl := h2.int_inv
    exact ⟨_, call_min2 (X := X.wish E) hc, _, _, rfl, okd_pure c rv_int⟩
  · cases h
theorem cx_int : CallX X (.type "int") intD := by
  intro E o σ H G own ρ l d vs c hx h
  unfold intD at h
  split at h
  · cases h
    obtain ⟨v, rfl, h1⟩ := hx.one
    obtain rfl := h1.int_inv
    exact ⟨_, call_int1 (X := X.wish E), .inl ⟨_, rfl, okd_pure c rv_int⟩⟩
  · cases h
    obtain ⟨v, rfl, h1⟩ := hx.one
    obtain rfl := h1.bl_inv
    exact ⟨_, call_int1 (X := X.wish E), .inr ⟨_, rfl, okd_pure c rv_int⟩⟩
  · cases h
def bls : List D → Option (List Bool)
  | [] => some []
  | .bl b :: l => (bls l).map (b :: ·)
  | _ => none
theorem bls_rv {K : PySem.W.Frag} {G : Hp} : ∀ {l : List D} {xs : List V} {bs : List Bool}, RVs K G l xs → bls l = some bs → xs = bs.map V.bl
  | [], xs, bs, h, e => by cases e; rw [h.inv_nil]; rfl
  | .bl b :: l, xs, bs, h, e => by
    obtain ⟨x, r, rfl, h1, h2⟩ := h.inv_cons
    obtain ⟨bs', e1, e2⟩ := Option.map_eq_some_iff.mp (show (bls l).map (b :: ·) = some bs from e)
    subst e2
    rw [h1.bl_inv, bls_rv h2 e1]; rfl
  | .non :: l, xs, bs, h, e => by cases e
  | .int _ :: l, xs, bs, h, e => by cases e
  | .str _ :: l, xs, bs, h, e => by cases e
  | .tup _ :: l, xs, bs, h, e => by cases e
  | .lst _ :: l, xs, bs, h, e => by cases e
  | .dic _ _ :: l, xs, bs, h, e => by cases e
  | .ins _ _ _ :: l, xs, bs, h, e => by cases e
def allD : D → Option D
  | .lst l => (bls l).map fun bs => .bl (bs.all id)
  | _ => none
theorem ct_all (hc : X.calm = true) : CallT X (.builtin "all") allD := by
  intro E o σ H G own ρ dx d v c hx h
  unfold allD at h
  split at h
  · obtain ⟨bs, e1, e2⟩ := Option.map_eq_some_iff.mp h
    subst e2
    obtain ⟨a, xs, rfl, h1, h2⟩ := hx
    have e3 := bls_rv h2 e1
    subst e3
    exact ⟨_, cr_all (X := X.wish E) hc, a, bs, rfl, .inl h1, okd_pure c rv_bl⟩
  · cases h

/-! ### isinstance -/
/-- what isinstance asks of the classes cl -/
def InsOk (K : PySem.W.Frag) (C : Addr) : Prop := Cls K C ∧ PySem.W.findIn K (.ref C) "__class__" = some (some (.builtin "object.__class__")) ∧ PySem.W.specialIn K (.builtin "object.__class__") "__get__" = some (some (.builtin "getset_descriptor.__get__")) ∧
  PySem.W.takesIn K (.builtin "object.__class__") = some true ∧ PySem.W.mroIn K C (.type "object") = some true
def tyD (cl : List Addr) : D → Option Value
  | .non => some (.type "NoneType") | .bl _ => some (.type "bool") | .int _ => some (.type "int") | .str _ => some (.type "str")
  | .tup _ => some (.type "tuple") | .lst _ => some (.type "list") | .dic _ _ => some (.type "dict")
  | .ins c _ _ => if c ∈ cl then some (.ref c) else none
theorem tyD_ok {K : PySem.W.Frag} {cl : List Addr} (hC : ∀ C ∈ cl, InsOk K C) {H G : Hp} {own : Own} (g : Good H G own) {d : D} {v : V} {t : Value} (h : RV K G d v) (e : tyD cl d = some t) : TyX K H v t := by
  cases d with
  | non => cases e; rw [h.non_inv]; exact .base .non
  | bl b => cases e; rw [h.bl_inv]; exact .base (.bl _)
  | int b => cases e; rw [h.int_inv]; exact .base (.int _)
  | str b => cases e; rw [h.str_inv]; exact .base (.str _)
  | tup l =>
    cases e
    obtain ⟨a, xs, rfl, h1, h2⟩ := h.tup_inv
    rcases h1 with ⟨o, _, h1⟩ | ⟨o, its, n, h3, h4, _⟩
    · exact .fTuple (g.rdi _ _ (.pt o xs) h1)
    · exact .kTuple h3 h4
  | lst l =>
    cases e
    obtain ⟨a, xs, rfl, h1, h2⟩ := h.lst_inv
    rcases g.rd _ _ h1 with h5 | ⟨o, h5⟩
    · exact .base (.lst h5)
    · exact .base (.frz h5)
  | dic ks l =>
    cases e
    obtain ⟨a, xs, rfl, h1, h2, h3⟩ := h.dic_inv
    rcases g.rd _ _ h1 with h5 | ⟨o, h5⟩
    · exact .base (.dK h5)
    · exact .fDict h5
  | ins c ns l =>
    simp only [tyD] at e
    split at e
    · rename_i hc
      cases e
      obtain ⟨a, dx, fs, rfl, h1, h2, h3, h4⟩ := h.ins_inv
      obtain ⟨k1, k2, k3, k4, k5⟩ := hC c hc
      exact .base (.ins (g.rdi _ _ (.ins _ _ _) h1) k1 k2 k3 k4 k5)
    · cases e
def isiD (K : PySem.W.Frag) (cl : List Addr) (us : List Value) (d : D) : Option D := (tyD cl d).bind fun t => (PySem.W.kitAny K t us).map .bl
theorem kitAny_one {K : PySem.W.Frag} {t u : Value} {b : Bool} (h : PySem.W.kitAny K t [u] = some b) : PySem.W.kitOne K t u = some b := by
  unfold PySem.W.kitAny at h
  cases e : PySem.W.kitOne K t u with
  | none => rw [e] at h; cases h
  | some c =>
    rw [e] at h
    cases c with
    | true => exact h
    | false => exact h
def mIsi (K : PySem.W.Frag) (cl : List Addr) (us : List Value) (ma : ME) : ME := fun ρ => (ma ρ).bind fun d ρ1 => opt (isiD K cl us d) ρ1
/-- isinstance(e, C): one class; te the class's own reading -/
theorem se_isi {cl : List Addr} {ec : Expr} {cv : V} {u : Value} (hC : ∀ C ∈ cl, InsOk X.K C) (hg : Gl X "isinstance") (hm : X.mg "isinstance" = none) (ha : SE X e ma) (hc : ∀ E, PE (X.wish E) ec (tC cv)) (k : ClsV cv u)
    (he : starEach [e, ec] X.env = (false, eval e X.env) :: starEach [ec] X.env := by rfl) (he2 : starEach [ec] X.env = (false, eval ec X.env) :: starEach [] X.env := by rfl) (hpl : (backTo pos (starEach [ec] X.env)).any (·.1) = false := by rfl) :
    SE X (.Call (.Name "isinstance" p) [e, ec] [] pos) (mIsi X.K cl [u] ma) := by
  refine ET.se (tf := fun Y => tCB (anyC Y (.builtin "isinstance")) (tCons (wE Y e) (tCons (tC cv) tNil))) (fun o σ H G own ρ α r Q c nb hx kk => ?_)
    fun E => pe_callB (X := X.wish E) call_any hg hm PyProof.Rows.boot_isinstance (pa_cons pe_w (pa_cons (hc E) pa_nil he2) he) (by decide) (by decide) he hpl
  refine ha.we c (R.bind_nb nb) (Xle.bind.trans hx) fun d ρ1 v H1 G1 own1 e1 c1 x1 r1 => ?_
  unfold mIsi at nb hx kk
  rw [e1, R.bind_ok] at nb hx kk
  obtain ⟨d', e3, e4⟩ := opt_nb nb
  unfold isiD at e3
  obtain ⟨t, e5, e6⟩ := Option.bind_eq_some_iff.mp e3
  obtain ⟨b, e7, e8⟩ := Option.map_eq_some_iff.mp e6
  subst e8
  exact ⟨_, call_isi, v, cv, t, u, b, rfl, k, tyD_ok hC c1.good r1 e5, kitAny_one e7, kk _ ρ1 _ H1 G1 own1 e4 c1 x1 rv_bl⟩
/-- isinstance(e, (C, D)) -/
theorem se_isi2 {cl : List Addr} {ec ed : Expr} {cv dv : V} {u u' : Value} {n : Nat} {tp : Pos} (hC : ∀ C ∈ cl, InsOk X.K C) (hg : Gl X "isinstance") (hm : X.mg "isinstance" = none) (ha : SE X e ma) (hc : ∀ E, PE (X.wish E) ec (tC cv)) (k : ClsV cv u) (hd : ∀ E, PE (X.wish E) ed (tC dv)) (k' : ClsV dv u')
    (he : starEach [e, .Tuple [ec, ed] n tp] X.env = (false, eval e X.env) :: starEach [.Tuple [ec, ed] n tp] X.env := by rfl) (he2 : starEach [.Tuple [ec, ed] n tp] X.env = (false, eval (.Tuple [ec, ed] n tp) X.env) :: starEach [] X.env := by rfl)
    (he3 : starEach [ec, ed] X.env = (false, eval ec X.env) :: starEach [ed] X.env := by rfl) (he4 : starEach [ed] X.env = (false, eval ed X.env) :: starEach [] X.env := by rfl) (hpl : (backTo pos (starEach [.Tuple [ec, ed] n tp] X.env)).any (·.1) = false := by rfl) :
    SE X (.Call (.Name "isinstance" p) [e, .Tuple [ec, ed] n tp] [] pos) (mIsi X.K cl [u, u'] ma) := by
  refine ET.se (tf := fun Y => tCB (anyC Y (.builtin "isinstance")) (tCons (wE Y e) (tCons (tTup (tCons (tC cv) (tCons (tC dv) tNil))) tNil))) (fun o σ H G own ρ α r Q c nb hx kk => ?_)
    fun E => pe_callB (X := X.wish E) call_any hg hm PyProof.Rows.boot_isinstance (pa_cons pe_w (pa_cons (pe_tup (pa_cons (hc E) (pa_cons (hd E) pa_nil he4) he3)) pa_nil he2) he) (by decide) (by decide) he hpl
  refine ha.we c (R.bind_nb nb) (Xle.bind.trans hx) fun d ρ1 v H1 G1 own1 e1 c1 x1 r1 => ?_
  unfold mIsi at nb hx kk
  rw [e1, R.bind_ok] at nb hx kk
  obtain ⟨d', e3, e4⟩ := opt_nb nb
  unfold isiD at e3
  obtain ⟨t, e5, e6⟩ := Option.bind_eq_some_iff.mp e3
  obtain ⟨b, e7, e8⟩ := Option.map_eq_some_iff.mp e6
  subst e8
  refine ⟨by simp [sizeLine_eq], fun q hq => ?_⟩
  obtain ⟨c2, x2⟩ := c1.shared (u := .tup [cv, dv]) hq
  exact ⟨_, call_isiT, v, q, [cv, dv], t, [u, u'], b, rfl, upd_same, .cons k (.cons k' .nil), tyD_ok hC c2.good (RV.mono x2 _ _ r1) e5, e7, kk _ ρ1 _ _ _ own1 e4 c2 (x1.trans x2) rv_bl⟩
end
end DL

set_option maxRecDepth 100000
set_option maxHeartbeats 2000000
namespace DL
open PySem PySem.Spec L2
open PyProof.Rows hiding St

/-! ### arguments: values, or a slot lent -/
inductive Ar where
  | d (x : D) | sl (i : Nat) | tmp
def ArV (K : PySem.W.Frag) (G : Hp) (σ : L2.St) (tv : V) : Ar → V → Prop
  | .d x, v => RV K G x v
  | .sl i, v => σ[i]? = some (some v)
  | .tmp, v => v = tv
def ArVs (K : PySem.W.Frag) (G : Hp) (σ : L2.St) (tv : V) : List Ar → List V → Prop := Paired (ArV K G σ tv)
theorem ArV.mono {K : PySem.W.Frag} {G G' : Hp} {σ : L2.St} {tv : V} (e : Ext G G') : ∀ {a : Ar} {v : V}, ArV K G σ tv a v → ArV K G' σ tv a v
  | .d x, v, h => RV.mono e _ _ h
  | .sl i, v, h => h
  | .tmp, v, h => h
def isSl (i : Option Nat) : Ar → Bool
  | .sl k => some k == i
  | .tmp => none == i
  | .d _ => false
def lab : Ar → Option (Option Nat)
  | .sl k => some (some k)
  | .tmp => some none
  | .d _ => none
def posn (l : List Ar) (i : Option Nat) : Option Nat := l.findIdx? (isSl i)
theorem posn_some {l : List Ar} {i : Option Nat} {j : Nat} (h : posn l i = some j) : ∃ a, l[j]? = some a ∧ lab a = some i := by
  unfold posn at h
  obtain ⟨h1, h2, _⟩ := List.findIdx?_eq_some_iff_getElem.mp h
  refine ⟨_, List.getElem?_eq_getElem h1, ?_⟩
  cases e : l[j] with
  | d x => rw [e] at h2; cases h2
  | sl k => rw [e] at h2; rw [← beq_iff_eq.mp h2]; rfl
  | tmp => rw [e] at h2; rw [← beq_iff_eq.mp h2]; rfl
def okAr (l : List Ar) : Bool := (List.range l.length).all fun j => match l[j]? with
  | some (.sl i) => decide (posn l (some i) = some j)
  | some .tmp => decide (posn l none = some j)
  | _ => true
theorem okAr_pos {l : List Ar} (h : okAr l = true) {i : Option Nat} {j : Nat} {a : Ar} (e : l[j]? = some a) (ea : lab a = some i) : posn l i = some j := by
  unfold okAr at h
  rw [List.all_eq_true] at h
  have hj : j < l.length := (List.getElem?_eq_some_iff.mp e).1
  have q := h j (List.mem_range.mpr hj)
  rw [e] at q
  cases a with
  | d x => cases ea
  | sl k => cases ea; exact of_decide_eq_true q
  | tmp => cases ea; exact of_decide_eq_true q
def arC (ρ : Env) (tc : Option C) : Ar → Option C
  | .d x => some (.v x)
  | .sl i => ρ[i]?.join
  | .tmp => tc
def arsC (ρ : Env) (tc : Option C) : List Ar → Option (List C)
  | [] => some []
  | a :: l => match arC ρ tc a, arsC ρ tc l with
    | some c, some r => some (c :: r)
    | _, _ => none
theorem arsC_get {ρ : Env} {tc : Option C} : ∀ {l : List Ar} {cs : List C} {j : Nat} {c : C}, arsC ρ tc l = some cs → cs[j]? = some c → ∃ a, l[j]? = some a ∧ arC ρ tc a = some c
  | [], cs, j, c, h, e => by cases h; simp at e
  | a :: l, cs, j, c, h, e => by
    simp only [arsC] at h
    split at h
    · rename_i c0 r e1 e2
      cases h
      cases j with
      | zero => simp at e; subst e; exact ⟨a, rfl, e1⟩
      | succ j => exact arsC_get (l := l) (j := j) e2 (by simpa using e)
    · cases h
theorem arsC_len {ρ : Env} {tc : Option C} : ∀ {l : List Ar} {cs : List C}, arsC ρ tc l = some cs → cs.length = l.length
  | [], cs, h => by cases h; rfl
  | a :: l, cs, h => by
    simp only [arsC] at h
    split at h
    · rename_i c0 r e1 e2
      cases h
      simp [arsC_len e2]
    · cases h
def backE (l : List Ar) (ρc ρ : Env) : Env := ρ.mapIdx fun i c => match posn l (some i) with
  | some j => ρc[j]?.join
  | none => c
theorem backE_get {l : List Ar} {ρc ρ : Env} {i : Nat} {c : C} (h : (backE l ρc ρ)[i]? = some (some c)) : (∃ j, posn l (some i) = some j ∧ ρc[j]? = some (some c)) ∨ (posn l (some i) = none ∧ ρ[i]? = some (some c)) := by
  unfold backE at h
  rw [List.getElem?_mapIdx] at h
  obtain ⟨c0, h1, h2⟩ := Option.map_eq_some_iff.mp h
  cases e : posn l (some i) with
  | none =>
    rw [e] at h2
    dsimp only at h2
    exact .inr ⟨rfl, by rw [h1, h2]⟩
  | some j =>
    rw [e] at h2
    dsimp only at h2
    refine .inl ⟨j, rfl, ?_⟩
    cases e2 : ρc[j]? with
    | none => rw [e2] at h2; cases h2
    | some z => rw [e2] at h2; simp at h2; rw [h2]
abbrev Den := List C → R C
def callD (den : Den) (l : List Ar) (ρ : Env) : R C := match arsC ρ none l with
  | some cs => if okAr l = true then match den cs with
      | .ok c ρc => .ok c (backE l ρc ρ)
      | .exc c fs ρc => .exc c fs (backE l ρc ρ)
      | .bad => .bad
    else .bad
  | none => .bad

def RCs (K : PySem.W.Frag) (H G : Hp) (own : Own) (cs : List C) (vs : List V) : Prop := cs.length = vs.length ∧ ∀ (j : Nat) (c : C), cs[j]? = some c → ∃ v, vs[j]? = some v ∧ RC K H G own (some j) c v
/-- a def's promise, by data -/
def spD (K : PySem.W.Frag) (np : Nat) (den : Den) : Sp := fun vs H Q E => vs.length = np ∧ ∃ cs G own, RCs K H G own cs vs ∧ Good H G own ∧ den cs ≠ .bad ∧
  (∀ c ρ' σ' v H' G' own', den cs = .ok c ρ' → Cfg K ⟨H, G, own, vs⟩ σ' H' G' own' ρ' → RC K H' G' own' none c v → Q v H') ∧
  (∀ cls d σ' H', WO K ⟨H, G, own, vs⟩ (den cs) cls d σ' H' → E cls d H')

/-- the callee's view of whose things are -/
def lend (l : List Ar) (own : Own) : Own := fun a => match own a with
  | some (i, t) => (posn l i).map fun j => (some j, t)
  | none => none
def backO (l : List Ar) : Option (Option Nat × Option Str) → Option (Option Nat × Option Str)
  | some (some j, t) => (l[j]?.bind lab).map fun i => (i, t)
  | some (none, t) => some (none, t)
  | none => none
def unlend (l : List Ar) (own own' : Own) : Own := fun a => if own a ≠ none ∧ lend l own a = none then own a else backO l (own' a)
theorem paired_get {K : PySem.W.Frag} {G : Hp} {σ : L2.St} {tv : V} : ∀ {l : List Ar} {vs : List V} {j : Nat} {a : Ar}, Paired (ArV K G σ tv) l vs → l[j]? = some a → ∃ v, vs[j]? = some v ∧ ArV K G σ tv a v := by
  intro l vs j a h
  induction h generalizing j with
  | nil => intro e; simp at e
  | cons r t ih =>
    intro e
    cases j with
    | zero => simp at e; subst e; exact ⟨_, rfl, r⟩
    | succ j => obtain ⟨v, k1, k2⟩ := ih (j := j) (by simpa using e); exact ⟨v, by simpa using k1, k2⟩
section
variable {K : PySem.W.Frag} {o : Orig} {σ σc : L2.St} {H G H' G' : Hp} {own own' : Own} {ρ ρc : Env} {l : List Ar} {vs : List V} {tc : Option C} {tv : V}
theorem lend_none {a : Addr} (h : own a = none) : lend l own a = none := by unfold lend; rw [h]
theorem lend_good (g : Good H G own) : Good H G (lend l own) := ⟨g.rd, g.rdi, fun a h => lend_none (g.sep a h), fun a h => g.live a fun z => h (lend_none z)⟩
theorem lend_rcs (c : Cfg K o σ H G own ρ) (ht : ∀ c, tc = some c → RC K H G own none c tv) (ha : ArVs K G σ tv l vs) (hk : okAr l = true) {cs : List C} (hc : arsC ρ tc l = some cs) : RCs K H G (lend l own) cs vs := by
  refine ⟨by rw [arsC_len hc]; exact Paired.length ha, fun j cc e => ?_⟩
  obtain ⟨a, h1, h2⟩ := arsC_get hc e
  obtain ⟨v, h3, h4⟩ := paired_get ha h1
  refine ⟨v, h3, ?_⟩
  cases a with
  | d x => cases h2; exact h4
  | sl i =>
    have h2' : ρ[i]? = some (some cc) := by
      simp only [arC] at h2
      cases z : ρ[i]? with
      | none => rw [z] at h2; cases h2
      | some y => rw [z] at h2; simp at h2; rw [h2]
    obtain ⟨w, k1, k2⟩ := c.er i cc h2'
    have : w = v := by
      have h4' : σ[i]? = some (some v) := h4
      rw [k1] at h4'; cases h4'; rfl
    subst this
    refine k2.move (fun a t u e1 e2 => ⟨e2, ?_⟩) Ext.rfl'
    unfold lend
    rw [e1]
    show (posn l (some i)).map _ = _
    rw [okAr_pos hk h1 rfl]; rfl
  | tmp =>
    obtain rfl : v = tv := h4
    refine (ht cc h2).move (fun a t u e1 e2 => ⟨e2, ?_⟩) Ext.rfl'
    unfold lend
    rw [e1]
    show (posn l none).map _ = _
    rw [okAr_pos hk h1 rfl]; rfl
/-- behind the call -/
theorem call_back (c : Cfg K o σ H G own ρ) (ha : ArVs K G σ tv l vs) (hk : okAr l = true) (cc : Cfg K ⟨H, G, lend l own, vs⟩ σc H' G' own' ρc) :
    Cfg K o σ H' G' (unlend l own own') (backE l ρc ρ) ∧ Ext G G' ∧ (∀ c v, RC K H' G' own' none c v → RC K H' G' (unlend l own own') none c v) ∧ (∀ dd, H dd = none → own' dd = none → unlend l own own' dd = none) ∧
      (∀ (j : Nat) (c' : C), l[j]? = some Ar.tmp → ρc[j]? = some (some c') → RC K H' G' (unlend l own own') none c' tv) := by
  have s := cc.stp
  have live' : ∀ a, own' a ≠ none → ¬ (own a ≠ none ∧ lend l own a = none) := fun a h ⟨z1, z2⟩ => by
    rcases s.orig a h with q | q
    · exact q z2
    · exact c.good.live a z1 q
  have mv : ∀ (j : Nat) (c' : C) (a : Ar) (i : Option Nat) (v : V), l[j]? = some a → lab a = some i → RC K H' G' own' (some j) c' v → RC K H' G' (unlend l own own') i c' v := fun j c' a i v e1 ea k2 => by
    refine k2.move (fun a' t u e2 e3 => ⟨e3, ?_⟩) Ext.rfl'
    unfold unlend
    rw [if_neg (live' a' (by rw [e2]; simp)), e2]
    show (l[j]?.bind lab).map _ = _
    rw [e1]
    show (lab a).map _ = _
    rw [ea]; rfl
  refine ⟨⟨fun i c' e => ?_, ⟨cc.good.rd, cc.good.rdi, fun a h => ?_, fun a h => ?_⟩, c.stp.trans ⟨fun a u h n => s.keep a u h (lend_none n), s.grow, fun a h => ?_, fun a h => ?_, s.there⟩, c.pins⟩, s.grow, fun c' v h => ?_, fun dd h1 h2 => ?_, fun j c' h1 h2 => ?_⟩
  · rcases backE_get e with ⟨j, h1, h2⟩ | ⟨h1, h2⟩
    · obtain ⟨v, k1, k2⟩ := cc.er j c' h2
      obtain ⟨a, e1, e2⟩ := posn_some h1
      obtain ⟨w, k3, k4⟩ := paired_get ha e1
      have k5 := cc.pins j w k3
      rw [k1] at k5; cases k5
      have k4' : σ[i]? = some (some v) := by
        cases a with
        | d x => cases e2
        | sl k => cases e2; exact k4
        | tmp => cases e2
      exact ⟨v, k4', mv j c' a _ v e1 e2 k2⟩
    · obtain ⟨v, k1, k2⟩ := c.er i c' h2
      refine ⟨v, k1, k2.move (fun a t u e2 e3 => ?_) s.grow⟩
      have e4 : lend l own a = none := by
        unfold lend
        rw [e2]
        show (posn l (some i)).map _ = none
        rw [h1]; rfl
      refine ⟨s.keep a u e3 e4, ?_⟩
      unfold unlend
      rw [if_pos ⟨by rw [e2]; simp, e4⟩, e2]
  · have e1 := cc.good.sep a h
    unfold unlend
    by_cases z : own a ≠ none ∧ lend l own a = none
    · exfalso
      rcases s.origG a h with q | q | q
      · exact z.1 (c.good.sep a q)
      · exact q z.2
      · exact c.good.live a z.1 q
    · rw [if_neg z, e1]; rfl
  · unfold unlend at h
    by_cases z : own a ≠ none ∧ lend l own a = none
    · exact s.there a (c.good.live a z.1)
    · rw [if_neg z] at h
      refine cc.good.live a fun y => h ?_
      rw [y]; rfl
  · unfold unlend at h
    by_cases z : own a ≠ none ∧ lend l own a = none
    · exact .inl z.1
    · rw [if_neg z] at h
      rcases s.orig a (fun y => h (by rw [y]; rfl)) with q | q
      · exact .inl fun y => q (lend_none y)
      · exact .inr q
  · rcases s.origG a h with q | q | q
    · exact .inl q
    · exact .inr (.inl fun y => q (lend_none y))
    · exact .inr (.inr q)
  · refine h.move (fun a t u e2 e3 => ⟨e3, ?_⟩) Ext.rfl'
    unfold unlend
    rw [if_neg (live' a (by rw [e2]; simp)), e2]
    rfl
  · have : own dd = none := c.good.onone h1
    unfold unlend
    rw [if_neg (fun z => z.1 this), h2]; rfl
  · obtain ⟨v, k1, k2⟩ := cc.er j c' h2
    obtain ⟨w, k3, k4⟩ := paired_get ha h1
    have k5 := cc.pins j w k3
    rw [k1] at k5; cases k5
    obtain rfl : v = tv := k4
    exact mv j c' .tmp none v h1 rfl k2
/-- THE CALL: what the callee promises is what the caller wants -/
theorem sp_call {np : Nat} {den : Den} (c : Cfg K o σ H G own ρ) (ha : ArVs K G σ tv l vs) (hn : l.length = np) (nb : callD den l ρ ≠ .bad) {Q : VK} {E : XK}
    (kq : ∀ c ρ' v H' G' own', callD den l ρ = .ok c ρ' → Cfg K o σ H' G' own' ρ' → Ext G G' → RC K H' G' own' none c v → Q v H')
    (ke : ∀ cls d H', WO K o (callD den l ρ) cls d σ H' → E cls d H') : spD K np den vs H Q E := by
  unfold callD at nb kq ke
  split at nb
  · rename_i cs e1
    split at nb
    · rename_i hk
      rw [e1] at kq ke
      simp only [hk, if_true] at kq ke nb
      refine ⟨by rw [← hn]; exact (Paired.length ha).symm, cs, G, lend l own, lend_rcs c (fun _ z => by cases z) ha hk e1, lend_good c.good, fun z => by rw [z] at nb; exact nb rfl, fun c' ρ' σ' v H' G' own' e2 cc rc => ?_, fun cls d σ' H' w => ?_⟩
      · obtain ⟨k1, k2, k3, _, _⟩ := call_back c ha hk cc
        exact kq c' _ v H' G' _ (by rw [e2]) k1 k2 (k3 _ _ rc)
      · obtain ⟨cl, fs, ρ', e2, e3, dd, vf, G', own', e4, e5, e6, cc, e7, e8, e9⟩ := w
        obtain ⟨k1, k2, k3, k4, _⟩ := call_back c ha hk cc
        have e9' : H dd = none := e9
        refine ke cls d H' ⟨cl, fs, _, by rw [e2], e3, dd, vf, G', _, e4, e5, e6, k1, k4 dd e9' e7, e8, ?_⟩
        cases z : o.H dd with
        | none => rfl
        | some u => exact absurd e9' (c.stp.there dd (by rw [z]; simp))
    · exact absurd rfl nb
  · exact absurd rfl nb
/-- C(..): __init__ by den, the instance made -/
def makeD (den : Den) (cl : Addr) (l : List Ar) (ρ : Env) : R C := match arsC ρ (some (.ins cl [] [])) (.tmp :: l) with
  | some cs => if okAr (.tmp :: l) = true then match den cs with
      | .ok (.v .non) ρc => match ρc[0]? with
        | some (some c) => .ok c (backE (.tmp :: l) ρc ρ)
        | _ => .bad
      | .ok _ _ => .bad
      | .exc c fs ρc => .exc c fs (backE (.tmp :: l) ρc ρ)
      | .bad => .bad
    else .bad
  | none => .bad
theorem sp_make {np : Nat} {den : Den} {cl x dx : Addr} (c : Cfg K o σ H G own ρ) (hx : H x = none) (hdx : H dx = none) (hne : dx ≠ x) (ha : ArVs K G σ (.ref x) l vs) (hn : l.length + 1 = np) (nb : makeD den cl l ρ ≠ .bad) {Q : VK} {E : XK}
    (kq : ∀ c ρ' H' G' own', makeD den cl l ρ = .ok c ρ' → Cfg K o σ H' G' own' ρ' → Ext G G' → RC K H' G' own' none c (.ref x) → Q (.ref x) H')
    (ke : ∀ cls d H', WO K o (makeD den cl l ρ) cls d σ H' → E cls d H') : spD K np den (.ref x :: vs) (upd (upd H dx (.own x)) x (.ins cl dx [])) (fun v H2 => v = .non ∧ Q (.ref x) H2) E := by
  have hx1 : upd H dx (.own x) x = none := by rw [upd_ne (Ne.symm hne)]; exact hx
  have c1 := c.owned (u := .own x) hdx (none, none)
  have c2 := c1.owned (u := .ins cl dx []) hx1 (none, none)
  have hT : ∀ c', some (C.ins cl [] []) = some c' → RC K (upd (upd H dx (.own x)) x (.ins cl dx [])) G (mark (mark own dx (some (none, none))) x (some (none, none))) none c' (.ref x) := fun c' e => by
    cases e
    exact ⟨x, dx, [], rfl, upd_same, by rw [upd_ne hne, upd_same], mark_same, by rw [mark_ne hne, mark_same], List.nodup_nil, trivial⟩
  have ha2 : ArVs K G σ (.ref x) (.tmp :: l) (.ref x :: vs) := .cons rfl ha
  unfold makeD at nb kq ke
  split at nb
  · rename_i cs e1
    split at nb
    · rename_i hk
      rw [e1] at kq ke
      simp only [hk, if_true] at kq ke nb
      refine ⟨by rw [← hn, List.length_cons, Paired.length ha], cs, G, _, lend_rcs c2 hT ha2 hk e1, lend_good c2.good, fun z => by rw [z] at nb; exact nb rfl, fun c' ρ' σ' v H' G' own' e2 cc rc => ?_, fun cls d σ' H' w => ?_⟩
      · rw [e2] at nb kq
        obtain ⟨k1, k2, k3, k4, k5⟩ := call_back c2 ha2 hk cc
        cases c' with
        | v d =>
          cases d with
          | non =>
            dsimp only at nb kq
            split at nb
            · rename_i cz e3
              rw [e3] at kq
              exact ⟨RV.non_inv (K := K) (G := G') rc, kq cz _ H' G' _ rfl k1 k2 (k5 0 cz rfl e3)⟩
            · exact absurd rfl nb
          | _ => exact absurd rfl nb
        | _ => exact absurd rfl nb
      · obtain ⟨cl', fs, ρ', e2, e3, dd, vf, G', own', e4, e5, e6, cc, e7, e8, e9⟩ := w
        obtain ⟨k1, k2, k3, k4, _⟩ := call_back c2 ha2 hk cc
        have e9' : upd (upd H dx (.own x)) x (.ins cl dx []) dd = none := e9
        refine ke cls d H' ⟨cl', fs, _, by rw [e2], e3, dd, vf, G', _, e4, e5, e6, k1, k4 dd e9' e7, e8, ?_⟩
        cases z : o.H dd with
        | none => rfl
        | some u => exact absurd e9' (c2.stp.there dd (by rw [z]; simp))
    · exact absurd rfl nb
  · exact absurd rfl nb
end
end DL

set_option maxRecDepth 100000
set_option maxHeartbeats 2000000
namespace DL
open PySem PySem.Spec L2
open PyProof.Rows hiding St

/-! ### expressions whose value is at hand (owned) -/
abbrev MO := Env → R C
def OkO (K : PySem.W.Frag) (o : Orig) (σ : L2.St) (G : Hp) (r : R C) : VK := fun v H' => ∃ c ρ' G' own', r = .ok c ρ' ∧ Cfg K o σ H' G' own' ρ' ∧ Ext G G' ∧ RC K H' G' own' none c v
def SO (X : Cx) (e : Expr) (m : MO) : Prop := ∀ o σ H G own ρ, Cfg X.K o σ H G own ρ → m ρ ≠ .bad → wE (Cx.to X o (m ρ)) e σ H (OkO X.K o σ G (m ρ))
def mFrz (m : MO) : ME := fun ρ => (m ρ).bind fun c ρ1 => .ok c.frz ρ1
section
variable {X : Cx} {o : Orig} {σ : L2.St} {H G : Hp} {own : Own} {ρ : Env} {e : Expr} {m : MO} {me : ME}
theorem SO.of {e : Expr} {m : MO} (h : ∀ o σ H G own ρ, Cfg X.K o σ H G own ρ → m ρ ≠ .bad → ∃ t, PE (Cx.to X o (m ρ)) e t ∧ t σ H (OkO X.K o σ G (m ρ))) : SO X e m := fun o σ H G own ρ c nb => .sh fun pins s I => by
  obtain ⟨t, ht, q⟩ := h o σ H G own ρ c nb
  exact ht.run pins s σ H _ I q
theorem SO.we {α : Type} {r : R α} {Q : VK} (h : SO X e m) (c : Cfg X.K o σ H G own ρ) (nb : m ρ ≠ .bad) (hx : Xle (m ρ) r)
    (k : ∀ d ρ' v H' G' own', m ρ = .ok d ρ' → Cfg X.K o σ H' G' own' ρ' → Ext G G' → RC X.K H' G' own' none d v → Q v H') : wE (Cx.to X o r) e σ H Q :=
  wE_mono (h o σ H G own ρ c nb) (fun v H' ⟨d, ρ', G', own', e, c', x, rv⟩ => k d ρ' v H' G' own' e c' x rv) fun u s' x => XE.imp (fun _ _ _ _ w => WO.imp hx w) x
theorem SO.se (h : SO X e m) : SE X e (mFrz m) := fun o σ H G own ρ c nb => h.we c (R.bind_nb nb) Xle.bind fun d ρ' v H' G' own' e c' x rv => by
  obtain ⟨G2, own2, c2, x2, r2⟩ := c'.frz rv
  exact ⟨_, ρ', G2, own2, by unfold mFrz; rw [e]; rfl, c2, x.trans x2, r2⟩
def mOwn (m : ME) : MO := fun ρ => (m ρ).bind fun d ρ1 => .ok (.v d) ρ1
theorem SE.so (h : SE X e me) : SO X e (mOwn me) := fun o σ H G own ρ c nb => h.we c (R.bind_nb nb) Xle.bind fun d ρ' v H' G' own' e c' x rv => ⟨.v d, ρ', G', own', by unfold mOwn; rw [e]; rfl, c', x, rv⟩
end
/-- arguments -/
def SAr (X : Cx) (es : List Expr) (m : Env → R (List Ar)) : Prop := ∀ o σ H G own ρ (α : Type) (r : R α) (Q : List V → Hp → Prop), Cfg X.K o σ H G own ρ → m ρ ≠ .bad → Xle (m ρ) r →
  (∀ l ρ' vs H' G' own', m ρ = .ok l ρ' → Cfg X.K o σ H' G' own' ρ' → Ext G G' → (∀ tv, ArVs X.K G' σ tv l vs) → Q vs H') → wA (Cx.to X o r) es σ H Q
/-- one argument -/
def SAr1 (X : Cx) (e : Expr) (m : Env → R Ar) : Prop := ∀ o σ H G own ρ (α : Type) (r : R α) (Q : VK), Cfg X.K o σ H G own ρ → m ρ ≠ .bad → Xle (m ρ) r →
  (∀ a ρ' v H' G' own', m ρ = .ok a ρ' → Cfg X.K o σ H' G' own' ρ' → Ext G G' → (∀ tv, ArV X.K G' σ tv a v) → Q v H') → wE (Cx.to X o r) e σ H Q
def aSlot (i : Nat) : Env → R Ar := fun ρ => match ρ[i]?.join with
  | some (.v d) => .ok (.d d) ρ
  | some _ => .ok (.sl i) ρ
  | none => .bad
def aVal (m : ME) : Env → R Ar := fun ρ => (m ρ).bind fun d ρ1 => .ok (.d d) ρ1
def aNil : Env → R (List Ar) := fun ρ => .ok [] ρ
def aCons (ma : Env → R Ar) (mr : Env → R (List Ar)) : Env → R (List Ar) := fun ρ => (ma ρ).bind fun a ρ1 => (mr ρ1).bind fun l ρ2 => .ok (a :: l) ρ2
section
variable {X : Cx} {o : Orig} {σ : L2.St} {H G : Hp} {own : Own} {ρ : Env} {e rc : Expr} {es : List Expr} {m : MO} {me : ME} {ma mr : Env → R Ar} {mas : Env → R (List Ar)} {pos p apos : Pos} {x mn : Str}
theorem ar_slot {i : Nat} {x : Str} (hN : X.N[i]? = some x) (hv : Vis X.env.scope x) (hd : (x == ("__debug__" : Str)) = false := by decide) (hcd : (x == ("__classdict__" : Str)) = false := by decide) : SAr1 X (.Name x pos) (aSlot i) := fun o σ H G own ρ α r Q c nb hx k => .sh fun pins s I => by
  unfold aSlot at nb hx k
  cases e1 : ρ[i]?.join with
  | none => rw [e1] at nb; exact absurd rfl nb
  | some cc =>
    have h' : ρ[i]? = some (some cc) := by
      cases e : ρ[i]? with
      | none => rw [e] at e1; cases e1
      | some z => rw [e] at e1; simp at e1; rw [e1]
    obtain ⟨v, h1, h2⟩ := c.er i cc h'
    refine (pe_var (X := Cx.to X o r) hN hv hd hcd).run pins s σ H _ I ⟨v, h1, ?_⟩
    rw [e1] at k
    cases cc with
    | v d => exact k _ ρ v H G own rfl c Ext.rfl' fun _ => h2
    | lst _ => exact k _ ρ v H G own rfl c Ext.rfl' fun _ => h1
    | dic _ _ => exact k _ ρ v H G own rfl c Ext.rfl' fun _ => h1
    | ins _ _ _ => exact k _ ρ v H G own rfl c Ext.rfl' fun _ => h1
theorem ar_val (h : SE X e me) : SAr1 X e (aVal me) := fun o σ H G own ρ α r Q c nb hx k => h.we c (R.bind_nb nb) (Xle.bind.trans hx) fun d ρ' v H' G' own' e c' x rv => k (.d d) ρ' v H' G' own' (by unfold aVal; rw [e]; rfl) c' x fun _ => rv
theorem ars_nil : SAr X [] aNil := fun o σ H G own ρ α r Q c nb hx k => paW pa_nil (k [] ρ [] H G own rfl c Ext.rfl' fun _ => .nil)
theorem ars_cons (h : SAr1 X e ma) (t : SAr X es mas) (hs : starEach (e :: es) X.env = (false, eval e X.env) :: starEach es X.env := by rfl) : SAr X (e :: es) (aCons ma mas) := fun o σ H G own ρ α r Q c nb hx k => paW (pa_cons (X := Cx.to X o r) pe_w pa_w hs) (by
  refine h o σ H G own ρ α r _ c (R.bind_nb nb) (Xle.bind.trans hx) fun a ρ1 v H1 G1 own1 e1 c1 x1 r1 => ?_
  unfold aCons at nb hx k
  rw [e1, R.bind_ok] at nb hx k
  refine t o σ H1 G1 own1 ρ1 α r _ c1 (R.bind_nb nb) (Xle.bind.trans hx) fun l ρ2 vs H2 G2 own2 e2 c2 x2 r2 => ?_
  rw [e2, R.bind_ok] at nb hx k
  exact k _ ρ2 _ H2 G2 own2 rfl c2 (x1.trans x2) fun tv => .cons ((r1 tv).mono x2) (r2 tv))

/-! ### defs -/
/-- a def of the module, by data -/
structure Fn (P : Program) (w : World) (K : PySem.W.Frag) (mg : Str → Option Value) (base : Heap) (k : Nat) (x : Str) (np : Nat) (den : Den) : Prop where
  fn : ∃ f fd ps, FnOk P w K mg base (L2.CX P w) k f fd ps (spD K np den) ∧ mg x = some (.ref f) ∧ PySem.W.keepIn K (.ref f) = true ∧ Binds K fd ps []
def mCall (np : Nat) (den : Den) (mas : Env → R (List Ar)) : MO := fun ρ => (mas ρ).bind fun l ρ1 => if l.length = np then callD den l ρ1 else .bad
theorem pass_to {r : R C} : ∀ σ, PassesAt (L2.CX X.prog X.w) (Cx.to X o r) σ (WE (WO X.K o r) σ) := fun σ => passAt (X := Cx.to X o r) (fun u s' x => XE.unwish x) σ
theorem so_call {k j np : Nat} {den : Den} (F : Fn X.prog X.w X.K X.mg X.base k x np den) (hr : Room j X.A) (hk : k ≤ j) (hg : Gl X x) (ha : SAr X (e :: es) mas) (hdb : (x == ("__debug__" : Str)) = false := by decide)
    (he : starEach (e :: es) X.env = (false, eval e X.env) :: starEach es X.env := by rfl) (hpl : (backTo pos (starEach es X.env)).any (·.1) = false := by rfl) : SO X (.Call (.Name x p) (e :: es) [] pos) (mCall np den mas) := by
  obtain ⟨f, fd, ps, F1, hm, hkp, hb⟩ := F.fn
  refine SO.of fun o σ H G own ρ c nb => ⟨_, pe_callS (X := Cx.to X o _) F1 (hr.mono hk) hg hm hkp hb pass_to pa_w hdb he hpl, ?_⟩
  refine ha o σ H G own ρ C _ _ c (R.bind_nb nb) Xle.bind fun l ρ1 vs H1 G1 own1 e1 c1 x1 r1 => ?_
  unfold mCall at nb ⊢
  rw [e1, R.bind_ok] at nb ⊢
  by_cases hn : l.length = np
  · rw [if_pos hn] at nb ⊢
    exact sp_call c1 (r1 .non) hn nb (fun c' ρ' v H' G' own' e2 c2 x2 rc => ⟨c', ρ', G', own', e2, c2, x1.trans x2, rc⟩) fun cls d H' w => w
  · rw [if_neg hn] at nb; exact absurd rfl nb

/-! ### methods -/
section
variable {C f : Addr} {k : Nat} {fd : FuncData} {ps : List Str} {sp : Sp} {E : L2.St → XK} {ta : TE} {t : TA} {es' : List Expr}
def tMethS (C : Addr) (m : Str) (sp : Sp) (E : L2.St → XK) (ta : TE) (t : TA) : TE := fun σ H Q => ta σ H fun x H1 => ∃ a dx fs, x = .ref a ∧ H1 a = some (.ins C dx fs) ∧ fs.lookup m = none ∧
  t σ H1 fun vs H2 => sp (x :: vs) H2 Q (E σ)
theorem pe_methS {CX : CXT} {pl : Sem Bool} (he : PE X rc ta) (c : Cls X.K C) (hm : Meth X.K C mn f) (F : FnOk X.prog X.w X.K X.mg X.base CX k f fd ps sp) (hr : Room k X.A) (hb : Binds X.K fd ps []) (hx : ∀ σ, PassesAt CX X σ (E σ)) (ha : PA X (e :: es) t)
    (hst : starEach (e :: es) X.env = (false, eval e X.env) :: starEach es X.env := by rfl) (hpl : (backTo pos (starEach es X.env)).any (·.1) = false := by rfl)
    (ht : eval (.Call (.Attribute rc mn apos) (e :: es) [] pos) X.env = (do
      let ov ← eval rc X.env
      standAt apos.atName
      let (f, first) ← holding [ov] (getMethod ov mn pl)
      callWith pos f first (backTo pos (starEach (e :: es) X.env)) (backToKw pos (keywordEach [] X.env))) := by rfl) :
    PE X (.Call (.Attribute rc mn apos) (e :: es) [] pos) (tMethS C mn sp E ta t) := by
  refine ⟨fun pins s σ H Q I h => ?_⟩
  refine PySem.W.methodCall_KW (pl := pl) (thn (he.run pins s σ H _ I h) fun u s1 ⟨x, H1, I1, rx, a, dx, fs, ex, ea, l, q⟩ => ?_) ht
  subst ex
  obtain rfl : u = Value.ref a := rx
  refine getmeth_ok I1 ea c hm l ?_
  refine PySem.W.callWith_K (first := [.ref a]) (h₀ := X.base) I.ok.mod.kin hm.kp (thn (ha.run pos pins s1 σ H1 _ I1 q) fun us s2 ⟨vs, H2, I2, r, q2⟩ => ⟨I2.kIn, ?_⟩) hst hpl
  exact run_fnS (us := .ref a :: us) (vs := .ref a :: vs) F hr hb (hx σ) I2 (.cons rfl r) q2
theorem pe_methS0 {CX : CXT} {pl : Sem Bool} (he : PE X rc ta) (c : Cls X.K C) (hm : Meth X.K C mn f) (F : FnOk X.prog X.w X.K X.mg X.base CX k f fd ps sp) (hr : Room k X.A) (hb : Binds X.K fd ps []) (hx : ∀ σ, PassesAt CX X σ (E σ))
    (ht : eval (.Call (.Attribute rc mn apos) [] [] pos) X.env = (do
      let ov ← eval rc X.env
      standAt apos.atName
      let (f, first) ← holding [ov] (getMethod ov mn pl)
      callWith pos f first (backTo pos (starEach [] X.env)) (backToKw pos (keywordEach [] X.env))) := by rfl) :
    PE X (.Call (.Attribute rc mn apos) [] [] pos) (tMethS C mn sp E ta tNil) := by
  refine ⟨fun pins s σ H Q I h => ?_⟩
  refine PySem.W.methodCall_KW (pl := pl) (thn (he.run pins s σ H _ I h) fun u s1 ⟨x, H1, I1, rx, a, dx, fs, ex, ea, l, q⟩ => ?_) ht
  subst ex
  obtain rfl : u = Value.ref a := rx
  refine getmeth_ok I1 ea c hm l ?_
  exact PySem.W.callWith_K0 (first := [.ref a]) I1.kIn hm.kp (run_fnS (us := [.ref a]) (vs := [.ref a]) F hr hb (hx σ) I1 (.cons rfl .nil) q)
end
/-- a method of the class at C, by data -/
structure Mt (P : Program) (w : World) (K : PySem.W.Frag) (mg : Str → Option Value) (base : Heap) (k : Nat) (C : Addr) (m : Str) (np : Nat) (den : Den) : Prop where
  cls : Cls K C
  fn : ∃ f fd ps, FnOk P w K mg base (L2.CX P w) k f fd ps (spD K np den) ∧ Meth K C m f ∧ Binds K fd ps []
def recvOk (C : Addr) (m : Str) (a : Ar) (ρ : Env) : Bool := match arC ρ none a with
  | some (.v (.ins c ns _)) => decide (c = C ∧ m ∉ ns)
  | some (.ins c ns _) => decide (c = C ∧ m ∉ ns)
  | _ => false
theorem lookup_not {m : Str} : ∀ {fs : List (Str × V)}, m ∉ fs.map (·.1) → fs.lookup m = none
  | [], _ => rfl
  | p :: fs, h => by
    rw [List.lookup_cons]
    have h1 : m ≠ p.1 := fun z => h (by rw [z]; exact List.mem_cons_self)
    rw [beq_eq_false_iff_ne.mpr h1]
    exact lookup_not fun z => h (List.mem_cons_of_mem _ z)
theorem RFs.names {K : PySem.W.Frag} {H G : Hp} {own : Own} {l : Option Nat} : ∀ {ns : List Str} {fs : List F} {vf : List (Str × V)}, RFs K H G own l ns fs vf → vf.map (·.1) = ns
  | [], [], [], _ => rfl
  | n :: ns, f :: fs, p :: r, ⟨h1, h2, h3⟩ => by rw [List.map_cons, h1, RFs.names h3]
theorem recv_at {C : Addr} {m : Str} {a : Ar} {v : V} (c : Cfg X.K o σ H G own ρ) (h : recvOk C m a ρ = true) (r : ArV X.K G σ .non a v) : ∃ x dx fs, v = .ref x ∧ H x = some (.ins C dx fs) ∧ fs.lookup m = none := by
  unfold recvOk at h
  split at h
  · rename_i cc ns vs e1
    obtain ⟨rfl, h2⟩ := of_decide_eq_true h
    have rv : RV X.K G (.ins cc ns vs) v := by
      cases a with
      | d x => cases e1; exact r
      | tmp => cases e1
      | sl i =>
        have h' : ρ[i]? = some (some (.v (.ins cc ns vs))) := by
          simp only [arC] at e1
          cases z : ρ[i]? with
          | none => rw [z] at e1; cases e1
          | some y => rw [z] at e1; simp at e1; rw [e1]
        obtain ⟨w, k1, k2⟩ := c.er i _ h'
        have r' : σ[i]? = some (some v) := r
        rw [k1] at r'; cases r'; exact k2
    obtain ⟨x, dx, fs, rfl, h3, h4, h5, _⟩ := rv.ins_inv
    exact ⟨x, dx, fs, rfl, c.good.rdi _ _ (.ins _ _ _) h3, lookup_not (by rw [h5]; exact h2)⟩
  · rename_i cc ns vs e1
    obtain ⟨rfl, h2⟩ := of_decide_eq_true h
    cases a with
    | d x => cases e1
    | tmp => cases e1
    | sl i =>
      have h' : ρ[i]? = some (some (.ins cc ns vs)) := by
        simp only [arC] at e1
        cases z : ρ[i]? with
        | none => rw [z] at e1; cases e1
        | some y => rw [z] at e1; simp at e1; rw [e1]
      obtain ⟨w, k1, k2⟩ := c.er i _ h'
      have r' : σ[i]? = some (some v) := r
      rw [k1] at r'; cases r'
      obtain ⟨x, dx, vf, rfl, h3, _, _, _, _, h7⟩ := k2
      exact ⟨x, dx, vf, rfl, h3, lookup_not (by rw [h7.names]; exact h2)⟩
  · cases h
def mMeth (C : Addr) (mn : Str) (np : Nat) (den : Den) (mr : Env → R Ar) (mas : Env → R (List Ar)) : MO := fun ρ => (mr ρ).bind fun a ρ1 => if recvOk C mn a ρ1 = true then (mas ρ1).bind fun l ρ2 => if l.length + 1 = np then callD den (a :: l) ρ2 else .bad else .bad
theorem et_meth {C : Addr} {np : Nat} {den : Den} {α : Type} {t : TA} (hr : SAr1 X rc mr) (c : Cfg X.K o σ H G own ρ) (nb : mMeth C mn np den mr mas ρ ≠ .bad)
    (ht : ∀ (H1 G1 : Hp) (own1 : Own) (ρ1 : Env) (Q : List V → Hp → Prop), Cfg X.K o σ H1 G1 own1 ρ1 → mas ρ1 ≠ .bad → Xle (mas ρ1) (mMeth C mn np den mr mas ρ) →
      (∀ l ρ' vs H' G' own', mas ρ1 = .ok l ρ' → Cfg X.K o σ H' G' own' ρ' → Ext G1 G' → (∀ tv, ArVs X.K G' σ tv l vs) → Q vs H') → t σ H1 Q) :
    tMethS C mn (spD X.K np den) (WE (WO X.K o (mMeth C mn np den mr mas ρ))) (wE (Cx.to X o (mMeth C mn np den mr mas ρ)) rc) t σ H (OkO X.K o σ G (mMeth C mn np den mr mas ρ)) := by
  refine hr o σ H G own ρ _ _ _ c (R.bind_nb nb) Xle.bind fun a ρ1 v H1 G1 own1 e1 c1 x1 r1 => ?_
  have nb' := nb
  unfold mMeth at nb
  rw [e1, R.bind_ok] at nb
  have eM : mMeth C mn np den mr mas ρ = if recvOk C mn a ρ1 = true then (mas ρ1).bind fun l ρ2 => if l.length + 1 = np then callD den (a :: l) ρ2 else .bad else .bad := by unfold mMeth; rw [e1, R.bind_ok]
  by_cases hv : recvOk C mn a ρ1 = true
  · rw [if_pos hv] at nb eM
    obtain ⟨x, dx, fs, rfl, h3, h4⟩ := recv_at c1 hv (r1 .non)
    refine ⟨x, dx, fs, rfl, h3, h4, ht H1 G1 own1 ρ1 _ c1 (R.bind_nb nb) (Xle.bind.trans (Xle.of_eq eM.symm)) fun l ρ2 vs H2 G2 own2 e2 c2 x2 r2 => ?_⟩
    rw [e2, R.bind_ok] at nb eM
    by_cases hn : l.length + 1 = np
    · rw [if_pos hn] at nb eM
      refine sp_call c2 (l := a :: l) (tv := .non) (.cons ((r1 .non).mono x2) (r2 .non)) (by simpa using hn) nb (fun c' ρ' v H' G' own' e3 c3 x3 rc => ⟨c', ρ', G', own', eM.trans e3, c3, (x1.trans x2).trans x3, rc⟩) fun cls d H' w => ?_
      exact WO.imp (Xle.of_eq eM.symm) w
    · rw [if_neg hn] at nb; exact absurd rfl nb
  · rw [if_neg hv] at nb; exact absurd rfl nb
theorem so_meth {k j np : Nat} {C : Addr} {den : Den} {pl : Sem Bool} (F : Mt X.prog X.w X.K X.mg X.base k C mn np den) (hr : Room j X.A) (hk : k ≤ j) (hrc : SAr1 X rc mr) (ha : SAr X (e :: es) mas)
    (he : starEach (e :: es) X.env = (false, eval e X.env) :: starEach es X.env := by rfl) (hpl : (backTo pos (starEach es X.env)).any (·.1) = false := by rfl)
    (ht : eval (.Call (.Attribute rc mn apos) (e :: es) [] pos) X.env = (do
      let ov ← eval rc X.env
      standAt apos.atName
      let (f, first) ← holding [ov] (getMethod ov mn pl)
      callWith pos f first (backTo pos (starEach (e :: es) X.env)) (backToKw pos (keywordEach [] X.env))) := by rfl) : SO X (.Call (.Attribute rc mn apos) (e :: es) [] pos) (mMeth C mn np den mr mas) := by
  obtain ⟨f, fd, ps, F1, hm, hb⟩ := F.fn
  exact SO.of fun o σ H G own ρ c nb => ⟨_, pe_methS (X := Cx.to X o _) pe_w F.cls hm F1 (hr.mono hk) hb pass_to pa_w he hpl ht, et_meth (α := D) hrc c nb fun H1 G1 own1 ρ1 Q c1 nb1 hx k => ha o σ H1 G1 own1 ρ1 _ _ Q c1 nb1 hx k⟩
theorem so_meth0 {k j np : Nat} {C : Addr} {den : Den} {pl : Sem Bool} (F : Mt X.prog X.w X.K X.mg X.base k C mn np den) (hr : Room j X.A) (hk : k ≤ j) (hrc : SAr1 X rc mr)
    (ht : eval (.Call (.Attribute rc mn apos) [] [] pos) X.env = (do
      let ov ← eval rc X.env
      standAt apos.atName
      let (f, first) ← holding [ov] (getMethod ov mn pl)
      callWith pos f first (backTo pos (starEach [] X.env)) (backToKw pos (keywordEach [] X.env))) := by rfl) : SO X (.Call (.Attribute rc mn apos) [] [] pos) (mMeth C mn np den mr aNil) := by
  obtain ⟨f, fd, ps, F1, hm, hb⟩ := F.fn
  exact SO.of fun o σ H G own ρ c nb => ⟨_, pe_methS0 (X := Cx.to X o _) pe_w F.cls hm F1 (hr.mono hk) hb pass_to ht, et_meth (α := D) hrc c nb fun H1 G1 own1 ρ1 Q c1 nb1 hx k => k [] ρ1 [] H1 G1 own1 rfl c1 Ext.rfl' fun _ => .nil⟩

/-! ### instances made -/
section
variable {C f : Addr} {k : Nat} {fd : FuncData} {ps : List Str} {sp : Sp} {E : L2.St → XK} {t : TA}
def tMakeS (C : Addr) (sp : Sp) (E : L2.St → XK) (t : TA) : TE := fun σ H Q => t σ H fun vs H1 => ∀ x dx, H1 x = none → H1 dx = none → dx ≠ x →
  sp (.ref x :: vs) (upd (upd H1 dx (.own x)) x (.ins C dx [])) (fun v H2 => v = .non ∧ Q (.ref x) H2) (E σ)
theorem pe_makeS {CX : CXT} (M : Mk X.K C f) (F : FnOk X.prog X.w X.K X.mg X.base CX k f fd ps sp) (hr : Room (k + 1) X.A) (hg : Gl X x) (hm : X.mg x = some (.ref C)) (hb : Binds X.K fd ps []) (hx : ∀ σ, PassesAt CX X σ (E σ))
    (ha : PA X (e :: es) t) (hdb : (x == ("__debug__" : Str)) = false := by decide) (he : starEach (e :: es) X.env = (false, eval e X.env) :: starEach es X.env := by rfl) (hpl : (backTo pos (starEach es X.env)).any (·.1) = false := by rfl) :
    PE X (.Call (.Name x p) (e :: es) [] pos) (tMakeS C sp E t) := by
  refine ⟨fun pins s σ H Q I h => ?_⟩
  refine wpAny_Call_Name_kw (ld_glob I hg hm ?_ hdb)
  refine PySem.W.callWith_K (h₀ := X.base) I.ok.mod.kin M.kp (thn (ha.run pos pins s σ H _ I h) fun us s1 ⟨vs, H1, I1, r, q⟩ => ⟨I1.kIn, ?_⟩) he hpl
  have hq := q (s1.heap.objs.size + 1) s1.heap.objs.size (I1.hok.fresh (Nat.le_succ _)) (I1.hok.fresh (Nat.le_refl _)) (Nat.ne_of_lt (Nat.lt_succ_self _))
  have I2 := Inv.made (C := C) I1
  have r2 : Vals (V.ref (s1.heap.objs.size + 1) :: vs) (Value.ref (s1.heap.objs.size + 1) :: us) := .cons rfl r
  have hl : (Value.ref (s1.heap.objs.size + 1) :: us).length = ps.length := by rw [← r2.length]; exact F.len _ _ _ _ hq
  have b := hb { s1 with heap := (s1.heap.push PySem.W.emptyDict).push (PySem.W.instObj C s1.heap.objs.size) } (Value.ref (s1.heap.objs.size + 1) :: us) I2.kIn (by rw [List.append_nil]; exact hl)
  rw [List.append_nil] at b
  refine wpAny_call (make_map (f := f) I1.kIn M.makes M.init (beq_iff_eq.mp M.fn) (codeAny_mono (F.run _ X.stack _ _ ⟨Value.ref (s1.heap.objs.size + 1) :: us, []⟩ (Value.ref (s1.heap.objs.size + 1) :: us) _ _ (E σ) (hr.make C us [])
    (I2.env0.make C us []) b r2 hq) fun r s' hq' => ?_))
  cases r with
  | error e => exact hx σ pins _ _ e s' I2 hq'
  | ok fl =>
    cases fl with
    | ret u =>
      obtain ⟨v, H', I3, rv, ev, q3⟩ := I2.after hq'
      subst ev
      exact ⟨rv, ⟨V.ref (s1.heap.objs.size + 1), H', I3, rfl, q3⟩⟩
    | next => exact False.elim hq'
    | brk => exact False.elim hq'
    | cont => exact False.elim hq'
end
/-- a class, by data: its __init__ -/
structure Mkr (P : Program) (w : World) (K : PySem.W.Frag) (mg : Str → Option Value) (base : Heap) (k : Nat) (x : Str) (C : Addr) (np : Nat) (den : Den) : Prop where
  fn : ∃ f fd ps, FnOk P w K mg base (L2.CX P w) k f fd ps (spD K np den) ∧ Mk K C f ∧ mg x = some (.ref C) ∧ Binds K fd ps []
def mMake (C : Addr) (np : Nat) (den : Den) (mas : Env → R (List Ar)) : MO := fun ρ => (mas ρ).bind fun l ρ1 => if l.length + 1 = np then makeD den C l ρ1 else .bad
theorem so_make {k j np : Nat} {C : Addr} {den : Den} (F : Mkr X.prog X.w X.K X.mg X.base k x C np den) (hr : Room j X.A) (hk : k + 1 ≤ j) (hg : Gl X x) (ha : SAr X (e :: es) mas) (hdb : (x == ("__debug__" : Str)) = false := by decide)
    (he : starEach (e :: es) X.env = (false, eval e X.env) :: starEach es X.env := by rfl) (hpl : (backTo pos (starEach es X.env)).any (·.1) = false := by rfl) : SO X (.Call (.Name x p) (e :: es) [] pos) (mMake C np den mas) := by
  obtain ⟨f, fd, ps, F1, M, hm, hb⟩ := F.fn
  refine SO.of fun o σ H G own ρ c nb => ⟨_, pe_makeS (X := Cx.to X o _) M F1 (hr.mono hk) hg hm hb pass_to pa_w hdb he hpl, ?_⟩
  refine ha o σ H G own ρ _ _ _ c (R.bind_nb nb) Xle.bind fun l ρ1 vs H1 G1 own1 e1 c1 x1 r1 => ?_
  intro xx dx h1 h2 h3
  unfold mMake at nb ⊢
  rw [e1, R.bind_ok] at nb ⊢
  by_cases hn : l.length + 1 = np
  · rw [if_pos hn] at nb ⊢
    exact sp_make c1 h1 h2 h3 (r1 _) hn nb (fun c' ρ' H' G' own' e2 c2 x2 rc => ⟨c', ρ', G', own', e2, c2, x1.trans x2, rc⟩) fun cls d H' w => w
  · rw [if_neg hn] at nb; exact absurd rfl nb

/-! ### a def's body keeps its promise -/
def denOf (N np : Nat) (m : MS) : Den := fun cs => match m (cs.map some ++ List.replicate (N - cs.length) none) with
  | .ok (.ret c) ρ => .ok c (ρ.take np)
  | .ok .nx ρ => .ok (.v .non) (ρ.take np)
  | .exc c fs ρ => .exc c fs (ρ.take np)
  | _ => .bad
end
theorem fn_den {P : Program} {w : World} {K : PySem.W.Frag} {mg : Str → Option Value} {base : Heap} {k : Nat} {f : Addr} {name qual : Str} {params : Arguments} {body : List Stmt} {scope : Scope} {dV kV doc pm cdv ct oc : Value} {an od : Option Addr}
    {osl : Array (Option Value)} {N ps : List Str} {m : MS} (lk : K.lookup f = some ⟨oc, od, .func (PySem.W.fnOf name qual params body scope dV kV doc pm an cdv ct), osl⟩) (hcd : PySem.W.codeIn K cdv qual = true) (S : FnScope N ps scope)
    (hbody : ∀ (A : Around) (outer : List PySem.Env) (s : Shared) (H : Hp) (E : XK), Room k (A.deeper (envOfC qual scope s.heap.objs.size f cdv)) → SSs (cxOf (L2.CX P w) P w K mg base N qual scope f cdv A outer s H E) ps.length body m) :
    FnOk P w K mg base (L2.CX P w) (k + 1) f (PySem.W.fnOf name qual params body scope dV kV doc pm an cdv ct) ps (spD K ps.length (denOf N.length ps.length m)) := by
  refine fn_of lk hcd S (fun vs H Q E h => h.1) fun A outer s H vs Q E hr hsp => ?_
  obtain ⟨hl, cs, G, own, rcs, good, nb, kq, ke⟩ := hsp
  have hps : ps.length ≤ N.length := by have := congrArg List.length S.pre; rw [List.length_take] at this; omega
  -- the context
  generalize hX : cxOf (L2.CX P w) P w K mg base N qual scope f cdv A outer s H E = X at *
  have XK' : X.K = K := by rw [← hX]; rfl
  have hb := hbody A outer s H E hr
  rw [hX] at hb
  have tk : Takes X (fun cls d _ H => E cls d H) := by
    rw [← hX]
    exact takes_of rfl rfl rfl rfl
  let o : Orig := ⟨H, G, own, vs⟩
  have c0 : Cfg X.K o (L2.start N vs) H G own (cs.map some ++ List.replicate (N.length - cs.length) none) := by
    rw [XK']
    refine ⟨fun i c e => ?_, good, Stp.refl, fun j v e => ?_⟩
    · have hi : i < cs.length := by
        by_cases z : i < cs.length
        · exact z
        · rw [List.getElem?_append_right (by simpa using z), List.getElem?_replicate] at e
          split at e <;> cases e
      rw [List.getElem?_append_left (by simpa using hi), List.getElem?_map] at e
      obtain ⟨c1, e1, e2⟩ := Option.map_eq_some_iff.mp e
      cases e2
      obtain ⟨v, h1, h2⟩ := rcs.2 i c e1
      refine ⟨v, ?_, h2⟩
      unfold L2.start
      rw [List.getElem?_append_left (by rw [List.length_map, ← rcs.1]; exact hi), List.getElem?_map, h1]; rfl
    · unfold L2.start
      have hj : j < vs.length := (List.getElem?_eq_some_iff.mp e).1
      rw [List.getElem?_append_left (by simpa using hj), List.getElem?_map, e]; rfl
  have nbm : m (cs.map some ++ List.replicate (N.length - cs.length) none) ≠ .bad := fun z => nb (by unfold denOf; rw [z])
  refine ⟨_, pss_w, ?_⟩
  have h := hb o (L2.start N vs) H G own _ hl c0 nbm
  refine wSs_mono (X := X) (E := _) (E' := X.xe) h (fun σ' H' q => ?_) (fun v H' q => ?_) (fun σ' H' q => ?_) (fun σ' H' q => ?_) fun u s' x => tk u s' (XE.imp (fun cls d σ' H' w' => ?_) x)
  · obtain ⟨ρ', G', own', e, c'⟩ := q
    rw [XK'] at c'
    refine kq (.v .non) (ρ'.take ps.length) σ' _ H' G' own' (by unfold denOf; rw [e]) (c'.forget _ fun i c h => (take_some h).1) (rv_non (K := K) (G := G'))
  · obtain ⟨c, ρ', σ', G', own', e, c', r'⟩ := q
    rw [XK'] at c' r'
    exact kq c (ρ'.take ps.length) σ' _ H' G' own' (by unfold denOf; rw [e]) (c'.forget _ fun i c h => (take_some h).1) r'
  · obtain ⟨ρ', G', own', e, c'⟩ := q
    exact absurd (by unfold denOf; rw [e]) nb
  · obtain ⟨ρ', G', own', e, c'⟩ := q
    exact absurd (by unfold denOf; rw [e]) nb
  · obtain ⟨cl, fs, ρ', e, e2, dd, vf, G', own', e3, e4, e5, c', e6, e7, e8⟩ := w'
    rw [XK'] at e5 c'
    exact ke cls d σ' H' ⟨cl, fs, ρ'.take ps.length, by unfold denOf; rw [e], e2, dd, vf, G', own', e3, e4, e5, c'.forget _ (fun i c h => (take_some h).1), e6, e7, e8⟩
end DL

set_option maxRecDepth 100000
set_option maxHeartbeats 2000000
namespace DL
open PySem PySem.Spec L2
open PyProof.Rows hiding St

/-- what stands behind a statement suffices -/
structure DOk (X : Cx) (o : Orig) (r : R Fl) (D : Ends) : Prop where
  nx : ∀ σ H, σ.length = X.N.length → (En X.K o r).nx σ H → D.nx σ H
  rt : ∀ v H, (En X.K o r).rt v H → D.rt v H
  bk : ∀ σ H, σ.length = X.N.length → (En X.K o r).bk σ H → D.bk σ H
  ct : ∀ σ H, σ.length = X.N.length → (En X.K o r).ct σ H → D.ct σ H
theorem DOk.refl {X : Cx} {o : Orig} {r : R Fl} : DOk X o r (En X.K o r) := ⟨fun _ _ _ h => h, fun _ _ h => h, fun _ _ _ h => h, fun _ _ _ h => h⟩
section
variable {X : Cx} {o : Orig} {σ : L2.St} {H G : Hp} {own : Own} {ρ : Env} {np : Nat}
theorem SP_monoL {E E' : Value → Shared → Prop} {D D' : Ends} {pins : List (Addr × Obj)} (h1 : ∀ σ H, σ.length = X.N.length → D.nx σ H → D'.nx σ H) (h2 : ∀ v H, D.rt v H → D'.rt v H) (h3 : ∀ σ H, σ.length = X.N.length → D.bk σ H → D'.bk σ H) (h4 : ∀ σ H, σ.length = X.N.length → D.ct σ H → D'.ct σ H) {f : Flow} {s' : Shared}
    (h : SP (X.wish E) pins D f s') : SP (X.wish E') pins D' f s' := by
  cases f with
  | next => obtain ⟨σ', H', I, q⟩ := h; exact ⟨σ', H', I.unwish.wish E', h1 _ _ I.len q⟩
  | brk => obtain ⟨σ', H', I, q⟩ := h; exact ⟨σ', H', I.unwish.wish E', h3 _ _ I.len q⟩
  | cont => obtain ⟨σ', H', I, q⟩ := h; exact ⟨σ', H', I.unwish.wish E', h4 _ _ I.len q⟩
  | ret u => obtain ⟨v, σ', H', I, r, q⟩ := h; exact ⟨v, σ', H', I.unwish.wish E', r, h2 _ _ q⟩
theorem SS.ws {st : Stmt} {m : MS} {α : Type} {r : R α} {D : Ends} (h : SS X np st m) (hn : o.vs.length = np) (c : Cfg X.K o σ H G own ρ) (nb : m ρ ≠ .bad) (hx : Xle (m ρ) r) (hD : DOk X o (m ρ) D) : wS (Cx.to X o r) st D σ H := .sh fun pins s I =>
  wpAny_mono (h o σ H G own ρ hn c nb pins s (I.unwish.wish _)) (fun _ _ q => SP_monoL hD.nx hD.rt hD.bk hD.ct q) fun u s' x => XE.imp (fun _ _ _ _ w => WO.imp hx w) x
theorem SSs.ws {st : List Stmt} {m : MS} {α : Type} {r : R α} {D : Ends} (h : SSs X np st m) (hn : o.vs.length = np) (c : Cfg X.K o σ H G own ρ) (nb : m ρ ≠ .bad) (hx : Xle (m ρ) r) (hD : DOk X o (m ρ) D) : wSs (Cx.to X o r) st D σ H := .sh fun pins s I =>
  wpAny_mono (h o σ H G own ρ hn c nb pins s (I.unwish.wish _)) (fun _ _ q => SP_monoL hD.nx hD.rt hD.bk hD.ct q) fun u s' x => XE.imp (fun _ _ _ _ w => WO.imp hx w) x
theorem SS.ofL {st : Stmt} {m : MS} (h : ∀ o σ H G own ρ, o.vs.length = np → σ.length = X.N.length → Cfg X.K o σ H G own ρ → m ρ ≠ .bad → ∃ t, PS (Cx.to X o (m ρ)) st t ∧ t (En X.K o (m ρ)) σ H) : SS X np st m := fun o σ H G own ρ hn c nb => .sh fun pins s I => by
  obtain ⟨t, ht, q⟩ := h o σ H G own ρ hn I.len c nb
  exact ht.run pins s σ H _ I q

/-! ### blocks -/
def mSeq (m1 m2 : MS) : MS := fun ρ => (m1 ρ).bind fun f ρ1 => match f with
  | .nx => m2 ρ1
  | f => .ok f ρ1
def mSkip : MS := fun ρ => .ok .nx ρ
def mBad : MS := fun _ => .bad
theorem sss_nil : SSs X np [] mSkip := SSs.of fun o σ H G own ρ hn c nb => ⟨_, pss_nil, ρ, G, own, rfl, c⟩
theorem sss_cons {st : Stmt} {rest : List Stmt} {m1 m2 : MS} (h1 : SS X np st m1) (h2 : SSs X np rest m2) : SSs X np (st :: rest) (mSeq m1 m2) := SSs.of fun o σ H G own ρ hn c nb => ⟨_, pss_cons ps_w pss_w, by
  have e0 : mSeq m1 m2 ρ = (m1 ρ).bind fun f ρ1 => match f with | .nx => m2 ρ1 | f => .ok f ρ1 := rfl
  refine h1.ws hn c (R.bind_nb nb) Xle.bind ⟨fun σ' H' _ q => ?_, fun v H' q => ?_, fun σ' H' _ q => ?_, fun σ' H' _ q => ?_⟩
  · obtain ⟨ρ', G', own', e, c'⟩ := q
    have e1 : mSeq m1 m2 ρ = m2 ρ' := by rw [e0, e]; rfl
    exact h2.ws hn c' (fun z => nb (e1.trans z)) (Xle.of_eq e1.symm) (by rw [e1]; exact DOk.refl)
  · obtain ⟨c1, ρ', σ', G', own', e, c', r'⟩ := q
    exact ⟨c1, ρ', σ', G', own', by rw [e0, e]; rfl, c', r'⟩
  · obtain ⟨ρ', G', own', e, c'⟩ := q
    exact ⟨ρ', G', own', by rw [e0, e]; rfl, c'⟩
  · obtain ⟨ρ', G', own', e, c'⟩ := q
    exact ⟨ρ', G', own', by rw [e0, e]; rfl, c'⟩⟩
theorem sss_one {st : Stmt} {m1 : MS} (h1 : SS X np st m1) : SSs X np [st] m1 := SSs.of fun o σ H G own ρ hn c nb => ⟨_, pss_one ps_w, h1.ws hn c nb .refl DOk.refl⟩
theorem ss_bad {st : Stmt} : SS X np st mBad := fun o σ H G own ρ hn c nb => absurd rfl nb
theorem sss_bad {st : List Stmt} : SSs X np st mBad := fun o σ H G own ρ hn c nb => absurd rfl nb

variable {e a b tst : Expr} {m : MO} {me ma mb : ME} {mt : MT} {mas : MA} {pos pos' p : Pos} {x : Str} {q : Env → Option C}
def mDrop (m : MO) : MS := fun ρ => (m ρ).bind fun _ ρ1 => .ok .nx ρ1
theorem ss_expr (h : SO X e m) (hs : swapsWith e none pos.line X.env = pure false := by rfl) : SS X np (.Expr e pos) (mDrop m) := SS.of fun o σ H G own ρ hn c nb => ⟨_, ps_expr pe_w hs, by
  refine h.we c (R.bind_nb nb) Xle.bind fun d ρ' v H' G' own' e c' x rv => ⟨ρ', G', own', by unfold mDrop; rw [e]; rfl, c'⟩⟩
def mSet (np i : Nat) (me : ME) : MS := fun ρ => (me ρ).bind fun d ρ1 => if np ≤ i then .ok .nx (ρ1.set i (some (.v d))) else .bad
theorem ss_set {i : Nat} (h : SE X e me) (hN : X.N.Nodup) (hi : X.N[i]? = some x) (hx : Loc X.env.scope x) (hs : swapsWith e (some (.Name x pos')) pos.line X.env = pure false := by rfl) (hf : X.fn x = true ∨ X.env.scope.names.lookup x = some .local := by first | exact .inl rfl | exact .inr rfl) :
    SS X np (.Assign [.Name x pos'] e pos) (mSet np i me) := SS.ofL fun o σ H G own ρ hn hl c nb => ⟨_, ps_set (X := Cx.to X o _) hN hi hx pe_w hs hf, by
  refine h.we c (R.bind_nb nb) Xle.bind fun d ρ' v H' G' own' e c' x rv => ?_
  unfold mSet at nb ⊢
  rw [e, R.bind_ok] at nb ⊢
  by_cases hz : np ≤ i
  · exact ⟨_, G', own', if_pos hz, c'.setv (by omega) (by rw [hl]; exact (List.getElem?_eq_some_iff.mp hi).1) rv⟩
  · rw [if_neg hz] at nb; exact absurd rfl nb⟩
def mSetO (np i : Nat) (me : MO) : MS := fun ρ => (me ρ).bind fun d ρ1 => if np ≤ i then .ok .nx (ρ1.set i (some d)) else .bad
theorem ss_seto {i : Nat} (h : SO X e m) (hN : X.N.Nodup) (hi : X.N[i]? = some x) (hx : Loc X.env.scope x) (hs : swapsWith e (some (.Name x pos')) pos.line X.env = pure false := by rfl) (hf : X.fn x = true ∨ X.env.scope.names.lookup x = some .local := by first | exact .inl rfl | exact .inr rfl) :
    SS X np (.Assign [.Name x pos'] e pos) (mSetO np i m) := SS.ofL fun o σ H G own ρ hn hl c nb => ⟨_, ps_set (X := Cx.to X o _) hN hi hx pe_w hs hf, by
  refine h.we c (R.bind_nb nb) Xle.bind fun d ρ' v H' G' own' e c' x rv => ?_
  unfold mSetO at nb ⊢
  rw [e, R.bind_ok] at nb ⊢
  by_cases hz : np ≤ i
  · exact ⟨_, G', _, if_pos hz, c'.seto (by omega) (by rw [hl]; exact (List.getElem?_eq_some_iff.mp hi).1) rv⟩
  · rw [if_neg hz] at nb; exact absurd rfl nb⟩
def mIfS (t : MT) (m1 m2 : MS) : MS := fun ρ => (t ρ).bind fun c ρ1 => if c = true then m1 ρ1 else m2 ρ1
theorem ss_if {s1 s2 : List Stmt} {m1 m2 : MS} (h : ST X tst mt) (h1 : SSs X np s1 m1) (h2 : SSs X np s2 m2) : SS X np (.If tst s1 s2 pos) (mIfS mt m1 m2) := SS.of fun o σ H G own ρ hn c nb => ⟨_, ps_if pt_w pss_w pss_w, by
  refine h.we c (R.bind_nb nb) Xle.bind fun b ρ1 H1 G1 own1 e1 c1 x1 => ?_
  have e0 : mIfS mt m1 m2 ρ = if b = true then m1 ρ1 else m2 ρ1 := by unfold mIfS; rw [e1]; rfl
  cases b with
  | true => exact h1.ws hn c1 (fun z => nb (e0.trans z)) (Xle.of_eq e0.symm) (by rw [e0]; exact DOk.refl)
  | false => exact h2.ws hn c1 (fun z => nb (e0.trans z)) (Xle.of_eq e0.symm) (by rw [e0]; exact DOk.refl)⟩
def mRet (me : MO) : MS := fun ρ => (me ρ).bind fun d ρ1 => .ok (.ret d) ρ1
theorem ss_ret (h : SO X e m) : SS X np (.Return (some e) pos) (mRet m) := SS.of fun o σ H G own ρ hn c nb => ⟨_, ps_ret pe_w, by
  refine h.we c (R.bind_nb nb) Xle.bind fun d ρ' v H' G' own' e c' x rv => ⟨d, ρ', σ, G', own', by unfold mRet; rw [e]; rfl, c', rv⟩⟩
def mRetN : MS := fun ρ => .ok (.ret (.v .non)) ρ
theorem ss_retN : SS X np (.Return none pos) mRetN := SS.of fun o σ H G own ρ hn c nb => ⟨_, ps_retN, .v .non, ρ, σ, G, own, rfl, c, (rv_non : RV X.K G _ _)⟩
/-- return of a slot's own -/
def mRetV (np i : Nat) : MS := fun ρ => match ρ[i]?.join with
  | some (.v d) => .ok (.ret (.v d)) ρ
  | some c => if np ≤ i then .ok (.ret c) (ρ.take np) else .bad
  | none => .bad
theorem ss_retV {i : Nat} (hN : X.N[i]? = some x) (hv : Vis X.env.scope x) (hd : (x == ("__debug__" : Str)) = false := by decide) (hcd : (x == ("__classdict__" : Str)) = false := by decide) : SS X np (.Return (some (.Name x pos')) pos) (mRetV np i) := SS.of fun o σ H G own ρ hn c nb => ⟨_, ps_ret (pe_var (X := Cx.to X o _) hN hv hd hcd), by
  unfold mRetV at nb ⊢
  cases e1 : ρ[i]?.join with
  | none => rw [e1] at nb; exact absurd rfl nb
  | some cc =>
    have h' : ρ[i]? = some (some cc) := by
      cases e : ρ[i]? with
      | none => rw [e] at e1; cases e1
      | some z => rw [e] at e1; simp at e1; rw [e1]
    obtain ⟨v, h1, h2⟩ := c.er i cc h'
    refine ⟨v, h1, ?_⟩
    have go : (if np ≤ i then R.ok (Fl.ret cc) (ρ.take np) else .bad) ≠ .bad → (En X.K o (if np ≤ i then R.ok (Fl.ret cc) (ρ.take np) else .bad)).rt v H := fun nb => by
      by_cases hz : np ≤ i
      · rw [if_pos hz]
        obtain ⟨c2, r2⟩ := c.giveo hz h2
        exact ⟨cc, _, σ, G, _, rfl, c2, r2⟩
      · rw [if_neg hz] at nb; exact absurd rfl nb
    rw [e1] at nb
    cases cc with
    | v d => exact ⟨.v d, ρ, σ, G, own, rfl, c, h2⟩
    | lst l => exact go nb
    | dic _ _ => exact go nb
    | ins _ _ _ => exact go nb⟩

/-! ### targets -/
abbrev MG := D → Env → Option Env
def isTup : Expr → Bool
  | .Tuple _ _ _ => true
  | _ => false
/-- what a target is given: shared data, or (a tuple of targets) a tuple of shared data -/
def ItR (tg : Expr) (K : PySem.W.Frag) (H G : Hp) (d : D) (v : V) : Prop := RV K G d v ∨ (isTup tg = true ∧ ∃ l a xs, d = .tup l ∧ v = .ref a ∧ SqT K H a xs ∧ RVs K G l xs)
def SG (X : Cx) (np : Nat) (tg : Expr) (mg : MG) : Prop := ∀ E, ∃ gt : TG, PG (X.wish E) tg gt ∧ ∀ o σ H G own ρ d v ρ' (Q : L2.St → Hp → Prop), o.vs.length = np → σ.length = X.N.length → Cfg X.K o σ H G own ρ → ItR tg X.K H G d v → mg d ρ = some ρ' →
  (∀ σ', σ'.length = X.N.length → Cfg X.K o σ' H G own ρ' → Q σ' H) → gt v σ H Q
abbrev MGs := List D → Env → Option Env
def SGs (X : Cx) (np : Nat) (tgs : List Expr) (mg : MGs) : Prop := ∀ E, ∃ gt : TGs, PGs (X.wish E) tgs gt ∧ ∀ o σ H G own ρ l vs ρ' (Q : L2.St → Hp → Prop), o.vs.length = np → σ.length = X.N.length → Cfg X.K o σ H G own ρ → RVs X.K G l vs → mg l ρ = some ρ' →
  (∀ σ', σ'.length = X.N.length → Cfg X.K o σ' H G own ρ' → Q σ' H) → gt vs σ H Q
def gN (np i : Nat) : MG := fun d ρ => if np ≤ i then some (ρ.set i (some (.v d))) else none
def gNs0 : MGs := fun l ρ => match l with
  | [] => some ρ
  | _ => none
def gNs (g : MG) (gs : MGs) : MGs := fun l ρ => match l with
  | d :: r => (g d ρ).bind (gs r)
  | [] => none
def gT (n : Nat) (gs : MGs) : MG := fun d ρ => match d with
  | .tup l => if l.length = n then gs l ρ else none
  | _ => none
theorem sg_name {i : Nat} (hN : X.N.Nodup) (hi : X.N[i]? = some x) (hx : Loc X.env.scope x) (hf : X.fn x = true ∨ X.env.scope.names.lookup x = some .local := by first | exact .inl rfl | exact .inr rfl) : SG X np (.Name x pos) (gN np i) := fun E => ⟨_, pg_name (X := X.wish E) hN hi hx hf, fun o σ H G own ρ d v ρ' Q hn hl c ir e k => by
  have rv : RV X.K G d v := by
    rcases ir with h | ⟨h, _⟩
    · exact h
    · cases h
  unfold gN at e
  by_cases hz : np ≤ i
  · rw [if_pos hz] at e
    cases e
    exact k _ (by rw [List.length_set]; exact hl) (c.setv (by omega) (by rw [hl]; exact (List.getElem?_eq_some_iff.mp hi).1) rv)
  · rw [if_neg hz] at e; cases e⟩
theorem sgs_nil : SGs X np [] gNs0 := fun E => ⟨_, pgs_nil, fun o σ H G own ρ l vs ρ' Q hn hl c rv e k => by
  unfold gNs0 at e
  cases l with
  | nil => cases e; exact ⟨rv.inv_nil, k σ hl c⟩
  | cons _ _ => cases e⟩
theorem sgs_cons {t : Expr} {ts : List Expr} {g : MG} {gs : MGs} (h1 : SG X np t g) (h2 : SGs X np ts gs) (hs : (assignEach (t :: ts) X.env).map (·.2) = assign t X.env :: (assignEach ts X.env).map (·.2) := by rfl) : SGs X np (t :: ts) (gNs g gs) := fun E => by
  obtain ⟨gt, p1, k1⟩ := h1 E
  obtain ⟨gts, p2, k2⟩ := h2 E
  refine ⟨_, pgs_cons p1 p2 hs, fun o σ H G own ρ l vs ρ' Q hn hl c rv e k => ?_⟩
  cases l with
  | nil => cases e
  | cons d r =>
    obtain ⟨v, vr, rfl, r1, r2⟩ := rv.inv_cons
    obtain ⟨ρ1, e1, e2⟩ := Option.bind_eq_some_iff.mp (show (g d ρ).bind (gs r) = some ρ' from e)
    exact ⟨v, vr, rfl, k1 o σ H G own ρ d v ρ1 _ hn hl c (.inl r1) e1 fun σ' hl' c' => k2 o σ' H G own ρ1 r vr ρ' Q hn hl' c' r2 e2 k⟩
theorem sg_tup {es : List Expr} {kk n : Nat} {gs : MGs} (hc : X.calm = true) (h : SGs X np es gs) (hn : (assignEach es X.env).length = n := by rfl) (hst : (assignEach es X.env).findIdx? (·.1) = none := by rfl) : SG X np (.Tuple es kk pos) (gT n gs) := fun E => by
  obtain ⟨gts, p2, k2⟩ := h E
  refine ⟨_, pg_tup (X := X.wish E) hc p2 hn hst, fun o σ H G own ρ d v ρ' Q hn hl c rv e k => ?_⟩
  unfold gT at e
  split at e
  · rename_i l
    split at e
    · rename_i hz
      obtain ⟨a, xs, rfl, h1, h2⟩ : ∃ a xs, v = .ref a ∧ SqT X.K H a xs ∧ RVs X.K G l xs := by
        rcases rv with rv | ⟨_, l', a, xs, e1, e2, e3, e4⟩
        · obtain ⟨a, xs, e1, h1, h2⟩ := rv.tup_inv
          exact ⟨a, xs, e1, c.good.tup h1, h2⟩
        · cases e1
          exact ⟨a, xs, e2, e3, e4⟩
      exact ⟨a, xs, rfl, h1, by rw [← h2.length]; exact hz, k2 o σ H G own ρ l xs ρ' Q hn hl c h2 e k⟩
    · cases e
  · cases e
def mAsg (me : ME) (g : MG) : MS := fun ρ => (me ρ).bind fun d ρ1 => match g d ρ1 with
  | some ρ2 => .ok .nx ρ2
  | none => .bad
theorem ss_asg {tg : Expr} {g : MG} (h : SE X e me) (hg : SG X np tg g) (hs : swapsWithSole [tg] e pos.line X.env = pure false := by rfl) (hw : swappedStores [tg] e X.env = pure none := by rfl)
    (h1 : (assignEach [tg] X.env).map (·.2) = [assign tg X.env] := by rfl) : SS X np (.Assign [tg] e pos) (mAsg me g) := SS.ofL fun o σ H G own ρ hn hl c nb => by
  obtain ⟨gt, p1, k1⟩ := hg (XE X (WO X.K o (mAsg me g ρ)))
  refine ⟨_, ps_asg (X := Cx.to X o _) pe_w p1 hs hw h1, ?_⟩
  refine h.we c (R.bind_nb nb) Xle.bind fun d ρ1 v H1 G1 own1 e1 c1 x1 r1 => ?_
  unfold mAsg at nb ⊢
  rw [e1, R.bind_ok] at nb ⊢
  cases e2 : g d ρ1 with
  | some ρ2 => exact k1 o σ H1 G1 own1 ρ1 d v ρ2 _ hn hl c1 (.inl r1) e2 fun σ' _ c' => ⟨ρ2, G1, own1, rfl, c'⟩
  | none => rw [e2] at nb; exact absurd rfl nb
/-- a, b = x, y -/
def mPar (np i j : Nat) (ma : MA) : MS := fun ρ => (ma ρ).bind fun l ρ1 => match l with
  | [d, e] => if np ≤ i ∧ np ≤ j then .ok .nx ((ρ1.set i (some (.v d))).set j (some (.v e))) else .bad
  | _ => .bad
theorem ss_par {i j : Nat} {y : Str} {px py pt : Pos} {kt k2 : Nat} {pt2 : Pos} (hc : X.calm = true) (hN : X.N.Nodup) (hi : X.N[i]? = some x) (hj : X.N[j]? = some y) (hij : i ≠ j)
    (hx : X.env.scope.names.lookup x = some .local) (hy : X.env.scope.names.lookup y = some .local) (ha : SA X [a, b] mas)
    (hs : swapsWithSole [.Tuple [.Name x px, .Name y py] kt pt] (.Tuple [a, b] k2 pt2) pos.line X.env = pure false := by rfl)
    (hw : swappedStores [.Tuple [.Name x px, .Name y py] kt pt] (.Tuple [a, b] k2 pt2) X.env = pure (some [x, y]) := by rfl) : SS X np (.Assign [.Tuple [.Name x px, .Name y py] kt pt] (.Tuple [a, b] k2 pt2) pos) (mPar np i j mas) := SS.ofL fun o σ H G own ρ hn hl c nb => ⟨_, ps_par (X := Cx.to X o _) hc hN hi hj hij hx hy pa_w hw hs, by
  refine ha.wa c (R.bind_nb nb) Xle.bind fun l ρ1 vs H1 G1 own1 e1 c1 x1 r1 => ?_
  unfold mPar at nb ⊢
  rw [e1, R.bind_ok] at nb ⊢
  split at nb
  · rename_i d e
    split at nb
    · rename_i hz
      obtain ⟨v, w, rfl, h1, h2⟩ := r1.two
      refine ⟨v, w, rfl, _, G1, own1, if_pos hz, ?_⟩
      exact (c1.setv (by omega) (by rw [hl]; exact (List.getElem?_eq_some_iff.mp hi).1) h1).setv (by omega) (by rw [List.length_set, hl]; exact (List.getElem?_eq_some_iff.mp hj).1) h2
    · exact absurd rfl nb
  · exact absurd rfl nb⟩

/-! ### for, over a list or a tuple that is shared -/
theorem Cfg.rebase {K : PySem.W.Frag} (c : Cfg K o σ H G own ρ) : Cfg K ⟨H, G, own, o.vs⟩ σ H G own ρ := ⟨c.er, c.good, Stp.refl, c.pins⟩
theorem Cfg.comp {K : PySem.W.Frag} {σ' : L2.St} {H' G' : Hp} {own' : Own} {ρ' : Env} (c : Cfg K o σ H G own ρ) (c' : Cfg K ⟨H, G, own, o.vs⟩ σ' H' G' own' ρ') : Cfg K o σ' H' G' own' ρ' := ⟨c'.er, c'.good, c.stp.trans c'.stp, c'.pins⟩
theorem WO.comp {K : PySem.W.Frag} {α : Type} {r : R α} {σ' : L2.St} {H' : Hp} {cls : Value} {d : Option Addr} (c : Cfg K o σ H G own ρ) (w : WO K ⟨H, G, own, o.vs⟩ r cls d σ' H') : WO K o r cls d σ' H' := by
  obtain ⟨cl, fs, ρ', e, e2, dd, vf, G', own', e3, e4, e5, c', e6, e7, e8⟩ := w
  refine ⟨cl, fs, ρ', e, e2, dd, vf, G', own', e3, e4, e5, c.comp c', e6, e7, ?_⟩
  cases z : o.H dd with
  | none => rfl
  | some u => exact absurd (show H dd = none from e8) (c.stp.there dd (by rw [z]; simp))
theorem En.comp {K : PySem.W.Frag} {r : R Fl} (c : Cfg K o σ H G own ρ) : (∀ σ' H', (En K ⟨H, G, own, o.vs⟩ r).nx σ' H' → (En K o r).nx σ' H') ∧ (∀ v H', (En K ⟨H, G, own, o.vs⟩ r).rt v H' → (En K o r).rt v H') :=
  ⟨fun σ' H' ⟨ρ', G', own', e, c'⟩ => ⟨ρ', G', own', e, c.comp c'⟩, fun v H' ⟨cc, ρ', σ', G', own', e, c', r'⟩ => ⟨cc, ρ', σ', G', own', e, c.comp c', r'⟩⟩
theorem passes_xe {W : WX} (hs : X.stack = X.env :: X.outer) (hf : X.env.frame = some X.env.locals) : PassesOwn (model X.prog X.w) X.A X.env (XE X W) := by
  intro e s' x
  obtain ⟨a, B, sI, pins, σ, H, cls, d, rfl, I, nb, up, sky, na, os, ag, w⟩ := x
  have hfr : X.A.frames = some (X.env :: X.outer) := by rw [I.ok.frames, hs]
  rw [hs] at sky
  have fin : ∀ h1, HandSPX.HeldZ B (X.env :: X.outer) a (Zc cls d) X.env.locals h1 → s'.heap.UpToSlots h1 → cameBackBy (model X.prog X.w) X.A X.env (XE X W) (.ref a) { s' with heap := h1 } := fun h1 hh up1 => by
    obtain ⟨k1, k2, k3, oe, vs, T, oT, ts, he, hz, hd, e1, r1⟩ := id hh
    unfold cameBackBy
    refine wpAny_bind (wpAny_field he hd e1 ?_)
    rw [if_neg (by simp)]
    rw [hf]
    refine HandSPX.setFlight_onZ (s := { s' with heap := h1 }) hh fun h2 hh2 up2 => ?_
    refine ⟨a, B, sI, pins, σ, H, cls, d, rfl, I, nb, (up.trans up1).trans up2, .inr (.inr ?_), na, os, ag, w⟩
    rw [hs]; exact hh2
  show wpAny _ _ (noteFrame (.ref a) X.env) _ _ _
  rcases sky with ⟨hB, hn, hl, oe, vs, he, hz, hd, h1⟩ | fl | hh
  · exact HandSPX.look_newZ Zc.steady hfr hl hf he hB hn hd h1 hz fin
  · exact HandSPX.looks_onZ Zc.steady hfr hf fl fin
  · exact HandSPX.againZ hf hh.2.2.2 (fin s'.heap hh (Heap.UpToSlots.refl _))
def forM (g : MG) (body : MS) : List D → Env → R Fl
  | [], ρ => .ok .nx ρ
  | d :: r, ρ => match g d ρ with
    | none => .bad
    | some ρ1 => (body ρ1).bind fun f ρ2 => match f with
      | .nx => forM g body r ρ2
      | .ct => forM g body r ρ2
      | .bk => .ok .nx ρ2
      | .ret c => .ok (.ret c) ρ2
def mFor (me : ME) (g : MG) (body : MS) : MS := fun ρ => (me ρ).bind fun d ρ1 => match d with
  | .tup l => forM g body l ρ1
  | .lst l => forM g body l ρ1
  | _ => .bad
/-- the target's part -/
def TgOk (X : Cx) (np : Nat) (tg : Expr) (gt : TG) (g : MG) : Prop := ∀ o σ H G own ρ d v ρ' (Q : L2.St → Hp → Prop), o.vs.length = np → σ.length = X.N.length → Cfg X.K o σ H G own ρ → ItR tg X.K H G d v → g d ρ = some ρ' → (∀ σ', σ'.length = X.N.length → Cfg X.K o σ' H G own ρ' → Q σ' H) → gt v σ H Q
theorem loop_step {α : Type} {r : R α} {g : MG} {body : MS} {bst : List Stmt} {gt : TG} {tg : Expr} (hn : o.vs.length = np) (hb : SSs X np bst body) (k1 : TgOk X np tg gt g) {M : R Fl} {l : List D} {d : D} {v : V} {σ1 : L2.St} {H1 G1 : Hp} {own1 : Own} {ρ1 : Env}
    (c0 : Cfg X.K o σ H G own ρ) (hl : σ1.length = X.N.length) (c : Cfg X.K ⟨H, G, own, o.vs⟩ σ1 H1 G1 own1 ρ1) (rv : RV X.K G d v) (e : forM g body (d :: l) ρ1 = M) (nb : M ≠ .bad) (hx : Xle M r) :
    gt v σ1 H1 fun σ2 H2 => wSs (Cx.to X o r) bst { En X.K o M with nx := fun σ' H' => σ'.length = X.N.length ∧ ∃ G' own' ρ', Cfg X.K ⟨H, G, own, o.vs⟩ σ' H' G' own' ρ' ∧ forM g body l ρ' = M, ct := fun σ' H' => σ'.length = X.N.length ∧ ∃ G' own' ρ', Cfg X.K ⟨H, G, own, o.vs⟩ σ' H' G' own' ρ' ∧ forM g body l ρ' = M, bk := (En X.K o M).nx } σ2 H2 := by
  simp only [forM] at e
  cases e2 : g d ρ1 with
  | none => rw [e2] at e; exact absurd e.symm nb
  | some ρ2 =>
    rw [e2] at e
    dsimp only at e
    refine k1 ⟨H, G, own, o.vs⟩ σ1 H1 G1 own1 ρ1 d v ρ2 _ hn hl c (.inl (RV.mono c.stp.grow _ _ rv)) e2 fun σ' hl' c' => ?_
    have nb1 : body ρ2 ≠ .bad := fun z => nb (by rw [← e, z]; rfl)
    have h := hb.ws (o := ⟨H, G, own, o.vs⟩) (r := body ρ2) (D := En X.K ⟨H, G, own, o.vs⟩ (body ρ2)) hn c' nb1 .refl DOk.refl
    refine .sh fun pins s I => ?_
    refine wpAny_mono (h pins s (I.unwish.wish _)) (fun f s' q => SP_monoL (fun σ3 H3 hl3 q => ?_) (fun v3 H3 q => ?_) (fun σ3 H3 hl3 q => ?_) (fun σ3 H3 hl3 q => ?_) q) fun u s' x => XE.imp (fun _ _ _ _ w => WO.imp (Xle.trans ?_ hx) (WO.comp c0 w)) x
    · obtain ⟨ρ3, G3, own3, e3, c3⟩ := q
      rw [e3, R.bind_ok] at e
      exact ⟨hl3, G3, own3, ρ3, c3, e⟩
    · obtain ⟨cc, ρ3, σ3, G3, own3, e3, c3, r3⟩ := q
      rw [e3, R.bind_ok] at e
      exact ⟨cc, ρ3, σ3, G3, own3, e.symm, c0.comp c3, r3⟩
    · obtain ⟨ρ3, G3, own3, e3, c3⟩ := q
      rw [e3, R.bind_ok] at e
      exact ⟨ρ3, G3, own3, e.symm, c0.comp c3⟩
    · obtain ⟨ρ3, G3, own3, e3, c3⟩ := q
      rw [e3, R.bind_ok] at e
      exact ⟨hl3, G3, own3, ρ3, c3, e⟩
    · intro cl fs ρ3 e3
      rw [← e, e3]; rfl
theorem loop_step2 {α : Type} {r : R α} {g : MG} {body : MS} {bst : List Stmt} {gt : TG} {tg : Expr} (hn : o.vs.length = np) (hb : SSs X np bst body) (k1 : TgOk X np tg gt g) {M : R Fl} {l : List D} {d : D} {v : V} {σ1 : L2.St} {H1 G1 : Hp} {own1 : Own} {ρ1 : Env}
    (c0 : Cfg X.K o σ H G own ρ) (hl : σ1.length = X.N.length) (c : Cfg X.K ⟨H, G, own, o.vs⟩ σ1 H1 G1 own1 ρ1) (rv : ItR tg X.K H1 G1 d v) (e : forM g body (d :: l) ρ1 = M) (nb : M ≠ .bad) (hx : Xle M r) :
    gt v σ1 H1 fun σ2 H2 => wSs (Cx.to X o r) bst { En X.K o M with nx := fun σ' H' => σ'.length = X.N.length ∧ ∃ G' own' ρ', Cfg X.K ⟨H, G, own, o.vs⟩ σ' H' G' own' ρ' ∧ forM g body l ρ' = M, ct := fun σ' H' => σ'.length = X.N.length ∧ ∃ G' own' ρ', Cfg X.K ⟨H, G, own, o.vs⟩ σ' H' G' own' ρ' ∧ forM g body l ρ' = M, bk := (En X.K o M).nx } σ2 H2 := by
  simp only [forM] at e
  cases e2 : g d ρ1 with
  | none => rw [e2] at e; exact absurd e.symm nb
  | some ρ2 =>
    rw [e2] at e
    dsimp only at e
    refine k1 ⟨H, G, own, o.vs⟩ σ1 H1 G1 own1 ρ1 d v ρ2 _ hn hl c rv e2 fun σ' hl' c' => ?_
    have nb1 : body ρ2 ≠ .bad := fun z => nb (by rw [← e, z]; rfl)
    have h := hb.ws (o := ⟨H, G, own, o.vs⟩) (r := body ρ2) (D := En X.K ⟨H, G, own, o.vs⟩ (body ρ2)) hn c' nb1 .refl DOk.refl
    refine .sh fun pins s I => ?_
    refine wpAny_mono (h pins s (I.unwish.wish _)) (fun f s' q => SP_monoL (fun σ3 H3 hl3 q => ?_) (fun v3 H3 q => ?_) (fun σ3 H3 hl3 q => ?_) (fun σ3 H3 hl3 q => ?_) q) fun u s' x => XE.imp (fun _ _ _ _ w => WO.imp (Xle.trans ?_ hx) (WO.comp c0 w)) x
    · obtain ⟨ρ3, G3, own3, e3, c3⟩ := q
      rw [e3, R.bind_ok] at e
      exact ⟨hl3, G3, own3, ρ3, c3, e⟩
    · obtain ⟨cc, ρ3, σ3, G3, own3, e3, c3, r3⟩ := q
      rw [e3, R.bind_ok] at e
      exact ⟨cc, ρ3, σ3, G3, own3, e.symm, c0.comp c3, r3⟩
    · obtain ⟨ρ3, G3, own3, e3, c3⟩ := q
      rw [e3, R.bind_ok] at e
      exact ⟨ρ3, G3, own3, e.symm, c0.comp c3⟩
    · obtain ⟨ρ3, G3, own3, e3, c3⟩ := q
      rw [e3, R.bind_ok] at e
      exact ⟨hl3, G3, own3, ρ3, c3, e⟩
    · intro cl fs ρ3 e3
      rw [← e, e3]; rfl
theorem drop_cons {l : List D} {i : Nat} {d : D} (h : l[i]? = some d) : l.drop i = d :: l.drop (i + 1) := by
  obtain ⟨h1, h2⟩ := List.getElem?_eq_some_iff.mp h
  rw [← h2]; exact List.drop_eq_getElem_cons h1
theorem ss_for {it tg : Expr} {bst : List Stmt} {g : MG} {body : MS} (hs : X.stack = X.env :: X.outer) (hf : X.env.frame = some X.env.locals) (hc : X.calm = true) (h : SE X it me) (hg : SG X np tg g) (hb : SSs X np bst body)
    (hfs : ∀ x, foldedSetIterable it X.env x = pure x := by intro _; rfl) : SS X np (.For tg it bst [] pos) (mFor me g body) := SS.ofL fun o σ H G own ρ hn hl c nb => by
  obtain ⟨gt, p1, k1⟩ := hg (XE X (WO X.K o (mFor me g body ρ)))
  have k1' : TgOk X np tg gt g := k1
  have fin : ∀ (l : List D) (ρ1 : Env) (H1 G1 : Hp) (own1 : Own) (xs : List V), Cfg X.K o σ H1 G1 own1 ρ1 → RVs X.K G1 l xs → mFor me g body ρ = forM g body l ρ1 → ∀ i x σ2 H2, xs[i]? = some x →
      (σ2.length = X.N.length ∧ ∃ G' own' ρ', Cfg X.K ⟨H1, G1, own1, o.vs⟩ σ2 H2 G' own' ρ' ∧ forM g body (l.drop i) ρ' = mFor me g body ρ) →
      gt x σ2 H2 fun σ3 H3 => wSs (Cx.to X o (mFor me g body ρ)) bst { En X.K o (mFor me g body ρ) with nx := fun σ' H' => σ'.length = X.N.length ∧ ∃ G' own' ρ', Cfg X.K ⟨H1, G1, own1, o.vs⟩ σ' H' G' own' ρ' ∧ forM g body (l.drop (i + 1)) ρ' = mFor me g body ρ, ct := fun σ' H' => σ'.length = X.N.length ∧ ∃ G' own' ρ', Cfg X.K ⟨H1, G1, own1, o.vs⟩ σ' H' G' own' ρ' ∧ forM g body (l.drop (i + 1)) ρ' = mFor me g body ρ, bk := (En X.K o (mFor me g body ρ)).nx } σ3 H3 := by
    intro l ρ1 H1 G1 own1 xs c1 rs eM i x σ2 H2 hx ⟨hl2, G', own', ρ', c', e'⟩
    obtain ⟨d, hd, rd⟩ := rs.get' hx
    rw [drop_cons hd] at e'
    exact loop_step hn hb k1' c1 hl2 c' rd e' nb .refl
  have last : ∀ (l : List D) (ρ1 : Env) (H1 G1 : Hp) (own1 : Own) (n : Nat), Cfg X.K o σ H1 G1 own1 ρ1 → l.length ≤ n → ∀ σ2 H2, (σ2.length = X.N.length ∧ ∃ G' own' ρ', Cfg X.K ⟨H1, G1, own1, o.vs⟩ σ2 H2 G' own' ρ' ∧ forM g body (l.drop n) ρ' = mFor me g body ρ) → (En X.K o (mFor me g body ρ)).nx σ2 H2 := by
    intro l ρ1 H1 G1 own1 n c1 hn' σ2 H2 ⟨hl2, G', own', ρ', c', e'⟩
    rw [List.drop_eq_nil_of_le hn'] at e'
    exact ⟨ρ', G', own', e'.symm, c1.comp c'⟩
  have hp : PassesOwn (model X.prog X.w) X.A X.env (XE X (WO X.K o (mFor me g body ρ))) := passes_xe hs hf
  cases e0 : me ρ with
  | bad => exact absurd e0 (R.bind_nb nb)
  | exc cl fs ρ1 =>
    refine ⟨_, ps_for (X := Cx.to X o _) hp hc (pi_list pe_w) p1 pss_w hfs, ?_⟩
    refine h.we c (R.bind_nb nb) Xle.bind fun d ρ1 v H1 G1 own1 e1 c1 x1 r1 => ?_
    rw [e0] at e1; cases e1
  | ok d ρ0 =>
    have eM : ∀ l, (d = .tup l ∨ d = .lst l) → mFor me g body ρ = forM g body l ρ0 := fun l h => by
      unfold mFor
      rw [e0, R.bind_ok]
      rcases h with rfl | rfl <;> rfl
    cases d with
    | tup l =>
      refine ⟨_, ps_for (X := Cx.to X o _) hp hc (pi_tup pe_w) p1 pss_w hfs, ?_⟩
      refine h.we c (R.bind_nb nb) Xle.bind fun d ρ1 v H1 G1 own1 e1 c1 x1 r1 => ?_
      rw [e0] at e1; cases e1
      obtain ⟨a, xs, rfl, h1, h2⟩ := r1.tup_inv
      refine ⟨a, rfl, ⟨xs, c1.good.tup h1⟩, ?_⟩
      refine for_tup (xs := xs) (fun i σ2 H2 => σ2.length = X.N.length ∧ ∃ G' own' ρ', Cfg X.K ⟨H1, G1, own1, o.vs⟩ σ2 H2 G' own' ρ' ∧ forM g body (l.drop i) ρ' = mFor me g body ρ)
        ⟨hl, G1, own1, _, c1.rebase, (eM l (.inl rfl)).symm⟩ (fun i σ2 H2 _ ⟨_, G', own', ρ', c', _⟩ => c'.good.tup (h1.mono c'.stp.grow)) (fun i x σ2 H2 hx P => fin l _ H1 G1 own1 xs c1 h2 (eM l (.inl rfl)) i x σ2 H2 hx P) (last l _ H1 G1 own1 _ c1 (by rw [h2.length]; exact Nat.le_refl _))
    | lst l =>
      refine ⟨_, ps_for (X := Cx.to X o _) hp hc (pi_list pe_w) p1 pss_w hfs, ?_⟩
      refine h.we c (R.bind_nb nb) Xle.bind fun d ρ1 v H1 G1 own1 e1 c1 x1 r1 => ?_
      rw [e0] at e1; cases e1
      obtain ⟨a, xs, rfl, h1, h2⟩ := r1.lst_inv
      refine ⟨a, rfl, ⟨xs, c1.good.lst h1⟩, ?_⟩
      refine for_list (xs := xs) (fun i σ2 H2 => σ2.length = X.N.length ∧ ∃ G' own' ρ', Cfg X.K ⟨H1, G1, own1, o.vs⟩ σ2 H2 G' own' ρ' ∧ forM g body (l.drop i) ρ' = mFor me g body ρ)
        ⟨hl, G1, own1, _, c1.rebase, (eM l (.inr rfl)).symm⟩ (fun i σ2 H2 _ ⟨_, G', own', ρ', c', _⟩ => c'.good.lst (c'.stp.grow _ _ h1)) (fun i x σ2 H2 hx P => fin l _ H1 G1 own1 xs c1 h2 (eM l (.inr rfl)) i x σ2 H2 hx P) (last l _ H1 G1 own1 _ c1 (by rw [h2.length]; exact Nat.le_refl _))
    | _ =>
      exfalso
      unfold mFor at nb
      rw [e0, R.bind_ok] at nb
      exact nb rfl
end
end DL

set_option maxRecDepth 100000
set_option maxHeartbeats 2000000
namespace DL
open PySem PySem.Spec L2
open PyProof.Rows hiding St

section
variable {X : Cx} {o : Orig} {σ : L2.St} {H G : Hp} {own : Own} {ρ : Env} {np : Nat}
variable {e a b ie tst : Expr} {m : MO} {me ma mb : ME} {mt : MT} {mas : MA} {pos pos' pos'' p : Pos} {x : Str} {q qi : Env → Option C}
theorem qVar_some {i : Nat} {c : C} (h : qVar i ρ = some c) : ρ[i]? = some (some c) := by
  unfold qVar at h
  cases e : ρ[i]? with
  | none => rw [e] at h; cases h
  | some z => rw [e] at h; simp at h; rw [h]
/-- slot i's content is put anew -/
theorem er_set {K : PySem.W.Frag} {u : HO} {a : Addr} {t : Option Str} {i : Nat} {c2 : C} {v : V} (c : Cfg K o σ H G own ρ) (ha : own a = some (some i, t)) (hv : σ[i]? = some (some v)) (h2 : RC K (upd H a u) G own (some i) c2 v) :
    Cfg K o σ (upd H a u) G own (ρ.set i (some c2)) := c.write ha _ fun j c' e => by
  by_cases hj : j = i
  · subst hj
    have hlt : j < ρ.length := by
      by_cases z : j < ρ.length
      · exact z
      · rw [List.getElem?_eq_none (by simp; omega)] at e; cases e
    rw [List.getElem?_set_self hlt] at e
    cases e
    exact ⟨v, hv, h2⟩
  · rw [List.getElem?_set_ne (Ne.symm hj)] at e
    obtain ⟨w, k1, k2⟩ := c.er j c' e
    exact ⟨w, k1, k2.apart ha (fun z => hj (Option.some.inj z).symm)⟩
/-- x[k] = value, x a slot's own list -/
def mSetIx (i : Nat) (mv mk : ME) : MS := fun ρ => (mv ρ).bind fun d ρ1 => (mk ρ1).bind fun k ρ2 => match qVar i ρ2, k with
  | some (.lst l), .int n => match ixN l.length n with
    | some j => .ok .nx (ρ2.set i (some (.lst (l.set j d))))
    | none => .bad
  | _, _ => .bad
def mk0 (q : Env → Option C) : ME := mV q
theorem ss_setIx {i : Nat} {tpos : Pos} (hv : SE X e me) (hN : X.N[i]? = some x) (hvis : Vis X.env.scope x) (hk : SQ X ie qi)
    (ha : ∀ v, assign (.Subscript (.Name x pos') ie tpos) X.env v = (do
      let ov ← holding [v] (eval (.Name x pos') X.env)
      let iv ← holding [v, ov] (eval ie X.env)
      standAt tpos
      holding [v, ov, iv] (setItem ov iv v)
      release [v, ov, iv] []) := by intro _; rfl)
    (hs : swapsWithSole [.Subscript (.Name x pos') ie tpos] e pos.line X.env = pure false := by rfl) (hw : swappedStores [.Subscript (.Name x pos') ie tpos] e X.env = pure none := by rfl)
    (h1 : (assignEach [.Subscript (.Name x pos') ie tpos] X.env).map (·.2) = [assign (.Subscript (.Name x pos') ie tpos) X.env] := by rfl)
    (hd : (x == ("__debug__" : Str)) = false := by decide) (hcd : (x == ("__classdict__" : Str)) = false := by decide) : SS X np (.Assign [.Subscript (.Name x pos') ie tpos] e pos) (mSetIx i me (mV qi)) := SS.of fun o σ H G own ρ hn c nb =>
  ⟨_, ps_asg (X := Cx.to X o _) pe_w (pg_sub (X := Cx.to X o _) (pe_var (X := Cx.to X o _) hN hvis hd hcd) pe_w set_list ha) hs hw h1, by
    refine hv.we c (R.bind_nb nb) Xle.bind fun d ρ1 v H1 G1 own1 e1 c1 x1 r1 => ?_
    unfold mSetIx at nb ⊢
    rw [e1, R.bind_ok] at nb ⊢
    unfold mV at nb ⊢
    cases e2 : qi ρ1 with
    | none => rw [e2] at nb; exact absurd rfl nb
    | some cc =>
      cases cc with
      | v k =>
        rw [e2] at nb
        dsimp only at nb ⊢
        rw [R.bind_ok] at nb ⊢
        cases e3 : qVar i ρ1 with
        | none => rw [e3] at nb; exact absurd rfl nb
        | some cl =>
          obtain ⟨w, k1, k2⟩ := c1.er i cl (qVar_some e3)
          refine ⟨w, k1, ?_⟩
          refine wE_mono (hk _ o σ H1 G1 own1 ρ1 _ c1 e2) (fun iv H' ⟨z, r⟩ => ?_) fun _ _ x => x
          subst z
          rw [e3] at nb
          cases cl with
          | lst l =>
            cases k with
            | int n =>
              dsimp only at nb ⊢
              cases e4 : ixN l.length n with
              | none => rw [e4] at nb; exact absurd rfl nb
              | some j =>
                obtain ⟨ad, xs, rfl, k3, k4, k5⟩ := k2
                obtain rfl := RV.int_inv (K := X.K) (G := G1) r
                refine ⟨ad, xs, n, j, rfl, rfl, k3, by rw [← k5.length]; exact e4, ?_⟩
                refine ⟨_, G1, own1, rfl, er_set c1 k4 k1 ⟨ad, _, rfl, upd_same, k4, RVs.set r1 j k5⟩⟩
            | _ => exact absurd rfl nb
          | v d => cases k <;> exact absurd rfl nb
          | dic _ _ => cases k <;> exact absurd rfl nb
          | ins _ _ _ => cases k <;> exact absurd rfl nb
      | _ => rw [e2] at nb; exact absurd rfl nb⟩
/-- x.append(value), x a slot's own list -/
def mApp (i : Nat) (mv : ME) : MS := fun ρ => (mv ρ).bind fun d ρ1 => match qVar i ρ1 with
  | some (.lst l) => if l.length < sizeLine then .ok .nx (ρ1.set i (some (.lst (l ++ [d])))) else .bad
  | _ => .bad
/-- what the slot holds ahead of the argument, and behind it -/
def mApp0 (i : Nat) (mv : ME) : MS := fun ρ => match qVar i ρ with
  | some (.lst _) => mApp i mv ρ
  | _ => .bad
theorem ss_app {i : Nat} {apos cpos : Pos} (hv : SE X e me) (hN : X.N[i]? = some x) (hvis : Vis X.env.scope x)
    (hbase : attributeBase (.Name x pos') "append" X.env (eval (.Name x pos') X.env) = eval (.Name x pos') X.env := by rfl)
    (hfew : ((backTo cpos (starEach (e :: []) X.env)).all (fun x => !x.1) && (backToKw cpos (keywordEach [] X.env)).all (fun x => x.1.isSome)
      && decide ((e :: []).length + ([] : List Keyword).length + (if ([] : List Keyword).isEmpty then 0 else 1) < 30)) = true := by rfl)
    (hline : (apos.endLine == cpos.line) = true := by rfl) (hst : starEach (e :: []) X.env = (false, eval e X.env) :: starEach [] X.env := by rfl) (hplain : (backTo cpos (starEach [] X.env)).any (·.1) = false := by rfl)
    (hs : swapsWith (.Call (.Attribute (.Name x pos') "append" apos) [e] [] cpos) none pos.line X.env = pure false := by rfl)
    (hd : (x == ("__debug__" : Str)) = false := by decide) (hcd : (x == ("__classdict__" : Str)) = false := by decide) : SS X np (.Expr (.Call (.Attribute (.Name x pos') "append" apos) [e] [] cpos) pos) (mApp0 i me) := SS.of fun o σ H G own ρ hn c nb =>
  ⟨_, ps_expr (pe_bm (X := Cx.to X o _) PySem.F.plainAttrs_list PySem.F.slot_list_append PySem.F.type_list_append (fun pins s σ H x xs v us Q I rx rs h => mt_append pins s σ H x xs v us Q I rx rs h) (pe_var (X := Cx.to X o _) hN hvis hd hcd) (pa_cons pe_w pa_nil hst) hbase hfew hline hst hplain) hs, by
    unfold mApp0 at nb ⊢
    cases e0 : qVar i ρ with
    | none => rw [e0] at nb; exact absurd rfl nb
    | some cl =>
      rw [e0] at nb
      cases cl with
      | lst l0 =>
        obtain ⟨w, k1, k2⟩ := c.er i _ (qVar_some e0)
        refine ⟨w, k1, ?_⟩
        obtain ⟨ad, xs, rfl, k3, k4, k5⟩ := k2
        dsimp only at nb ⊢
        refine ⟨.inl ⟨rfl, xs, .of k3⟩, ?_⟩
        refine hv.we c (R.bind_nb nb) Xle.bind fun d ρ1 v H1 G1 own1 e1 c1 x1 r1 => ?_
        unfold mApp at nb ⊢
        rw [e1, R.bind_ok] at nb ⊢
        cases e3 : qVar i ρ1 with
        | none => rw [e3] at nb; exact absurd rfl nb
        | some cl =>
          rw [e3] at nb
          cases cl with
          | lst l =>
            dsimp only at nb ⊢
            by_cases hz : l.length < sizeLine
            · obtain ⟨w', j1, j2⟩ := c1.er i _ (qVar_some e3)
              rw [k1] at j1; cases j1
              obtain ⟨ad', xs', ea, j3, j4, j5⟩ := j2
              cases ea
              refine ⟨ad, xs', v, rfl, rfl, j3, by rw [← j5.length]; exact hz, _, G1, own1, if_pos hz, er_set c1 j4 k1 ⟨ad, _, rfl, upd_same, j4, j5.append (.cons r1 .nil)⟩⟩
            · rw [if_neg hz] at nb; exact absurd rfl nb
          | _ => exact absurd rfl nb
      | _ => exact absurd rfl nb⟩

/-! ### dicts -/
def putD (ks : List Key) (vs : List D) (k : Key) (d : D) : List Key × List D := if (ks.any fun x => decide (x = k)) = true then (ks, (ks.zip vs).map fun kv => if kv.1 = k then d else kv.2) else (ks ++ [k], vs ++ [d])
theorem put_rv {K : PySem.W.Frag} {k : Key} {d : D} {v : V} (hv : RV K G d v) : ∀ {kvs : List (Key × V)} {vs : List D}, RVs K G vs (kvs.map (·.2)) → RVs K G (((kvs.map (·.1)).zip vs).map fun kv => if kv.1 = k then d else kv.2) ((kvs.map fun kv => if kv.1 = k then (kv.1, v) else kv).map (·.2))
  | [], vs, h => .nil
  | p :: r, [], h => by have := h.inv_nil; simp at this
  | p :: r, w :: vs, h => by
    obtain ⟨x, t, e1, h1, h2⟩ := h.inv_cons
    simp only [List.map_cons, List.cons.injEq] at e1
    obtain ⟨rfl, rfl⟩ := e1
    simp only [List.map_cons, List.zip_cons_cons]
    refine .cons ?_ (put_rv hv h2)
    by_cases e : p.1 = k
    · rw [if_pos e, if_pos e]; exact hv
    · rw [if_neg e, if_neg e]; exact h1
theorem put_keys {k : Key} {v : V} : ∀ {kvs : List (Key × V)}, (kvs.map fun kv => if kv.1 = k then (kv.1, v) else kv).map (·.1) = kvs.map (·.1)
  | [] => rfl
  | p :: r => by
    simp only [List.map_cons, put_keys]
    by_cases e : p.1 = k
    · rw [if_pos e]
    · rw [if_neg e]
theorem putK_rv {K : PySem.W.Frag} {k : Key} {d : D} {v : V} (hv : RV K G d v) {kvs : List (Key × V)} {vs : List D} (h : RVs K G vs (kvs.map (·.2))) :
    (putK kvs k v).map (·.1) = (putD (kvs.map (·.1)) vs k d).1 ∧ RVs K G (putD (kvs.map (·.1)) vs k d).2 ((putK kvs k v).map (·.2)) := by
  have ea : ((kvs.map (·.1)).any fun x => decide (x = k)) = (kvs.any fun kv => decide (kv.1 = k)) := by rw [List.any_map]; rfl
  unfold putK putD
  rw [ea]
  by_cases hk : (kvs.any fun kv => decide (kv.1 = k)) = true
  · rw [if_pos hk, if_pos hk]
    exact ⟨put_keys, put_rv hv h⟩
  · rw [if_neg hk, if_neg hk]
    exact ⟨by simp, by
      rw [List.map_append]
      exact h.append (.cons hv .nil)⟩
/-- a field's place in a content -/
def setF (f : Str) (w : F) : List Str → List F → List F
  | n :: ns, g :: fs => if n = f then w :: fs else g :: setF f w ns fs
  | _, fs => fs
def putFs (f : Str) (w : F) (ns : List Str) (fs : List F) : List Str × List F := if f ∈ ns then (ns, setF f w ns fs) else (ns ++ [f], fs ++ [w])
end
section
variable {K : PySem.W.Frag} {H H' G G' : Hp} {own own' : Own} {i : Option Nat} {f : Str}
/-- the field f's dict is written: the others are kept -/
theorem rfs_write {ad : Addr} {u : HO} (ha : own ad = some (i, some f)) {w : F} : ∀ {ns : List Str} {fs : List F} {vf : List (Str × V)}, RFs K H G own i ns fs vf → ns.Nodup → (∀ v, vf.lookup f = some v → RF K (upd H ad u) G own i f w v) → RFs K (upd H ad u) G own i ns (setF f w ns fs) vf
  | [], [], [], _, _, _ => trivial
  | n :: ns, g :: fs, p :: r, ⟨h1, h2, h3⟩, nd, hw => by
    obtain ⟨nn, nd'⟩ := List.nodup_cons.mp nd
    have keep : ∀ {t : Str} {g : F} {v : V}, t ≠ f → RF K H G own i t g v → RF K (upd H ad u) G own i t g v := fun {t g v} ht h => by
      cases g with
      | v d => exact h
      | lst l =>
        obtain ⟨a, xs, k1, k2, k3, k4⟩ := h
        have : a ≠ ad := fun z => by subst z; rw [ha] at k3; cases k3; exact ht rfl
        exact ⟨a, xs, k1, by rw [upd_ne this]; exact k2, k3, k4⟩
      | dic ks l =>
        obtain ⟨a, xs, k1, k2, k3, k4⟩ := h
        have : a ≠ ad := fun z => by subst z; rw [ha] at k3; cases k3; exact ht rfl
        exact ⟨a, xs, k1, by rw [upd_ne this]; exact k2, k3, k4⟩
    have keeps : ∀ {ns : List Str} {fs : List F} {vf : List (Str × V)}, f ∉ ns → RFs K H G own i ns fs vf → RFs K (upd H ad u) G own i ns fs vf := by
      intro ns
      induction ns with
      | nil => intro fs vf _ h; cases fs <;> cases vf <;> first | trivial | exact h.elim
      | cons n ns ih =>
        intro fs vf hn h
        cases fs with
        | nil => exact h.elim
        | cons g fs =>
          cases vf with
          | nil => exact h.elim
          | cons p r =>
            obtain ⟨k1, k2, k3⟩ := h
            exact ⟨k1, keep (fun z => hn (z ▸ List.mem_cons_self)) k2, ih (fun z => hn (List.mem_cons_of_mem _ z)) k3⟩
    simp only [setF]
    by_cases e : n = f
    · rw [if_pos e]
      refine ⟨h1, ?_, keeps (fun z => nn (e ▸ z)) h3⟩
      rw [e]
      exact hw p.2 (by rw [List.lookup_cons, h1, e]; simp)
    · rw [if_neg e]
      refine ⟨h1, keep e h2, rfs_write ha h3 nd' fun v hv => hw v ?_⟩
      rw [List.lookup_cons, h1]
      have : (f == n) = false := beq_eq_false_iff_ne.mpr (Ne.symm e)
      rw [this]; exact hv
theorem rfs_lookup {f : Str} {g : F} : ∀ {ns : List Str} {fs : List F} {vf : List (Str × V)}, RFs K H G own i ns fs vf → (ns.zip fs).lookup f = some g → ∃ v, vf.lookup f = some v ∧ RF K H G own i f g v
  | [], [], [], _, e => by simp at e
  | n :: ns, h :: fs, p :: r, ⟨h1, h2, h3⟩, e => by
    simp only [List.zip_cons_cons, List.lookup_cons] at e
    rw [show (p :: r).lookup f = _ from List.lookup_cons, h1]
    cases hb : f == n with
    | true =>
      rw [hb] at e
      cases e
      have := beq_iff_eq.mp hb
      subst this
      exact ⟨_, rfl, h2⟩
    | false =>
      rw [hb] at e
      exact rfs_lookup h3 e
end
section
variable {X : Cx} {o : Orig} {σ : L2.St} {H G : Hp} {own : Own} {ρ : Env} {np : Nat}
variable {e a b ie tst : Expr} {m : MO} {me ma mb : ME} {mt : MT} {mas : MA} {pos pos' pos'' p : Pos} {x : Str} {q qi : Env → Option C}
/-- x.f[k] = value, x a slot's own instance, f its own dict -/
def mPutF (cl : List Addr) (i : Nat) (f : Str) (mv : ME) (qk : Env → Option C) : MS := fun ρ => (mv ρ).bind fun d ρ1 => match qVar i ρ1, qk ρ1 with
  | some (.ins c ns fs), some (.v k) => match (ns.zip fs).lookup f, keyD k with
    | some (.dic ks vs), some kk => if c ∈ cl ∧ ks.length < sizeLine then .ok .nx (ρ1.set i (some (.ins c ns (setF f (.dic (putD ks vs kk d).1 (putD ks vs kk d).2) ns fs)))) else .bad
    | _, _ => .bad
  | _, _ => .bad
theorem ss_putF {i : Nat} {f : Str} {cl : List Addr} {apos tpos : Pos} (hu : X.A.units + 100 < cLine) (hC : ∀ C ∈ cl, Cls X.K C ∧ NoAttr X.K C f) (hv : SE X e me) (hN : X.N[i]? = some x) (hvis : Vis X.env.scope x) (hk : SQ X ie qi)
    (hb : attributeBase (.Name x pos') f X.env (eval (.Name x pos') X.env) = eval (.Name x pos') X.env := by rfl)
    (hs : swapsWith e (some (.Subscript (.Attribute (.Name x pos') f apos) ie tpos)) pos.line X.env = pure false := by rfl)
    (hd : (x == ("__debug__" : Str)) = false := by decide) (hcd : (x == ("__classdict__" : Str)) = false := by decide) : SS X np (.Assign [.Subscript (.Attribute (.Name x pos') f apos) ie tpos] e pos) (mPutF cl i f me qi) := SS.of fun o σ H G own ρ hn c nb =>
  ⟨_, ps_dput (X := Cx.to X o _) (show X.A.units + 1 < cLine by omega) (pe_fld (X := Cx.to X o _) (pe_var (X := Cx.to X o _) hN hvis hd hcd) hb) pe_w pe_w hs, by
    refine hv.we c (R.bind_nb nb) Xle.bind fun d ρ1 v H1 G1 own1 e1 c1 x1 r1 => ?_
    unfold mPutF at nb ⊢
    rw [e1, R.bind_ok] at nb ⊢
    cases e2 : qVar i ρ1 with
    | none => rw [e2] at nb; exact absurd rfl nb
    | some cc =>
      rw [e2] at nb
      cases cc with
      | ins cA ns fs =>
        cases e3 : qi ρ1 with
        | none => rw [e3] at nb; exact absurd rfl nb
        | some kc =>
          rw [e3] at nb
          cases kc with
          | v k =>
            dsimp only at nb ⊢
            cases e4 : (ns.zip fs).lookup f with
            | none => rw [e4] at nb; exact absurd rfl nb
            | some g =>
              rw [e4] at nb
              cases g with
              | dic ks vs =>
                cases e5 : keyD k with
                | none => rw [e5] at nb; exact absurd rfl nb
                | some kk =>
                  rw [e5] at nb
                  dsimp only at nb ⊢
                  by_cases hz : cA ∈ cl ∧ ks.length < sizeLine
                  · obtain ⟨w, j1, j2⟩ := c1.er i _ (qVar_some e2)
                    obtain ⟨ad, dx, vf, rfl, j3, j4, j5, j6, j7, j8⟩ := j2
                    obtain ⟨fv, j9, a2, kvs, j10, j11, j12, j13, j14⟩ := rfs_lookup j8 e4
                    refine ⟨.ref ad, j1, ad, cA, dx, vf, fv, rfl, j3, (hC cA hz.1).1, (hC cA hz.1).2, j9, ?_⟩
                    subst j10
                    refine wE_mono (hk _ o σ H1 G1 own1 ρ1 _ c1 e3) (fun iv H' ⟨z, r⟩ => ?_) fun _ _ x => x
                    subst z
                    obtain rfl := keyD_rv (K := X.K) (G := G1) r e5
                    subst j13
                    obtain ⟨p1, p2⟩ := putK_rv (k := kk) r1 j14
                    refine ⟨a2, _, rfl, DPut.k j11 (by simpa using hz.2), _, G1, own1, if_pos hz, er_set c1 j12 j1 ?_⟩
                    have n1 : ad ≠ a2 := fun z => by rw [z, j12] at j5; cases j5
                    have n2 : dx ≠ a2 := fun z => by rw [z, j12] at j6; cases j6
                    refine ⟨ad, dx, vf, rfl, by rw [upd_ne n1]; exact j3, by rw [upd_ne n2]; exact j4, j5, j6, j7, rfs_write j12 j8 j7 fun v' hv' => ?_⟩
                    rw [j9] at hv'; cases hv'
                    exact ⟨a2, _, rfl, upd_same, j12, p1, p2⟩
                  · rw [if_neg hz] at nb; exact absurd rfl nb
              | _ => exact absurd rfl nb
          | _ => exact absurd rfl nb
      | v d => exact absurd rfl nb
      | lst _ => exact absurd rfl nb
      | dic _ _ => exact absurd rfl nb⟩
end
end DL

set_option maxRecDepth 100000
set_option maxHeartbeats 4000000
/-! own exceptions over ValueError or OverflowError, by one account -/
namespace DL
open PySem PySem.Spec L2
open PyProof.Rows hiding St
/-- a built-in class over which the program's exceptions stand -/
structure Bas where
  B : String
  newId : String
  initId : String
  tl : List Value
structure BasOk (b : Bas) : Prop where
  F : ExcBaseFacts b.B b.newId b.initId b.tl
  pass : ∀ self : Value, refuseLoop self "__setattr__" b.tl = pure ()
  ob : b.tl.contains (.type "object") = true
  ks : PySem.W.KxsFacts b.B b.initId
def baV : Bas := ⟨"ValueError", "ValueError.__new__", "ValueError.__init__", [.type "ValueError", .type "Exception", .type "BaseException", .type "object"]⟩
def baO : Bas := ⟨"OverflowError", "OverflowError.__new__", "OverflowError.__init__", [.type "OverflowError", .type "ArithmeticError", .type "Exception", .type "BaseException", .type "object"]⟩
theorem baV_ok : BasOk baV := ⟨F.excBase_ValueError, F.store_ValueError.passes, by decide +kernel, PySem.W.kxs_ValueError⟩
theorem baO_ok : BasOk baO := ⟨F.excBase_OverflowError, F.store_OverflowError.passes, by decide +kernel, PySem.W.kxs_OverflowError⟩
def isRefV : Value → Bool
  | .ref _ => true
  | _ => false
/-- own classes, then the built-in's -/
def Over (b : Bas) (l : List Value) : Prop := ∃ rs : List Addr, l = rs.map Value.ref ++ b.tl
theorem refs_of : ∀ {l : List Value}, (∀ v ∈ l, isRefV v = true) → ∃ rs : List Addr, l = rs.map Value.ref
  | [], _ => ⟨[], rfl⟩
  | v :: l, h => by
    obtain ⟨rs, e⟩ := refs_of (l := l) fun u hu => h u (List.mem_cons_of_mem _ hu)
    have hv := h v List.mem_cons_self
    cases v <;> first | (cases hv; done) | exact ⟨_ :: rs, by rw [e]; rfl⟩
theorem takeWhile_all {α : Type} {p : α → Bool} : ∀ {l : List α}, ∀ v ∈ l.takeWhile p, p v = true
  | [], v, h => by simp at h
  | a :: l, v, h => by
    rw [List.takeWhile_cons] at h
    split at h
    · rename_i q
      rcases List.mem_cons.mp h with rfl | h
      · exact q
      · exact takeWhile_all v h
    · simp at h
theorem over_of {b : Bas} {l : List Value} (h : (l.dropWhile isRefV == b.tl) = true) : Over b l := by
  obtain ⟨rs, e⟩ := refs_of (l := l.takeWhile isRefV) takeWhile_all
  refine ⟨rs, ?_⟩
  rw [← e, ← beq_iff_eq.mp h, List.takeWhile_append_dropWhile]
theorem Over.pass {b : Bas} (h : BasOk b) (self : Value) {l : List Value} (o : Over b l) : refuseLoop self "__setattr__" l = pure () := by
  obtain ⟨rs, rfl⟩ := o
  induction rs with
  | nil => exact h.pass self
  | cons c r ih =>
    show refuseLoop self "__setattr__" (.ref c :: (r.map Value.ref ++ b.tl)) = _
    rw [refuseLoop_ref]; exact ih
theorem Over.has {b : Bas} (T : String) {l : List Value} (o : Over b l) : l.contains (.type T) = b.tl.contains (.type T) := by
  obtain ⟨rs, rfl⟩ := o
  induction rs with
  | nil => rfl
  | cons c r ih =>
    show (Value.ref c :: (r.map Value.ref ++ b.tl)).contains (.type T) = _
    rw [List.contains_cons, ih]; rfl
theorem Over.cons {b : Bas} {l : List Value} {c : Addr} (o : Over b l) : Over b (.ref c :: l) := by
  obtain ⟨rs, rfl⟩ := o
  exact ⟨c :: rs, rfl⟩
theorem Over.ne {b : Bas} (h : BasOk b) {l : List Value} (o : Over b l) : l.isEmpty = false := by
  have := o.has "object"
  rw [h.ob] at this
  cases l with
  | nil => cases this
  | cons _ _ => rfl
/-- what the written part says of the class -/
structure OexG (b : Bas) (K : PySem.W.Frag) (C : Addr) : Prop where
  ok : BasOk b
  cls : ∃ nm q N bs bm sn sub ab col dd k0 k1 k2 k3 k5, K.lookup C = some (excClassObj nm q C N bs bm true sn sub ab col dd k0 k1 k2 k3 k5 b.newId) ∧ Over b bm
  sa : PySem.W.findIn K (.ref C) "__setattr__" = some (some (.builtin "object.__setattr__"))
  exC : PySem.W.subIn K (.ref C) (.type "BaseException") = some true
  tyC : PySem.W.typeIn K (.ref C) = some (.type "type")
  kC : PySem.W.keepIn K (.ref C) = true
section
open PySem.HandSPX Builtin Builtin.ObjectAttr
variable {prog : Program} {w : World} {A : Around} {E : Value → Shared → Prop} {R : Result → Shared → Prop} {hp : Heap} {g : Array GenState} {d : Drawn} {t : Nat} {os : OsState}
/-- self.name = v, no field as yet -/
theorem osa_first {b : Bas} (hb : BasOk b) {K : PySem.W.Frag} {name : Str} {tk : Tok} {v : Value} {x C : Addr} {fv : Array Value} {cd : ClassData} (X : K.In hp) (hx : hp.get? x = some { cls := .ref C, data := .fields fv }) (hcd : PySem.W.clsIn K C = some cd) (hm : Over b cd.mro) (hh : cd.hasDict = true)
    (ha : PySem.W.findIn K (.ref C) name = some none) (hq : ∀ h' tk' dx, (∀ b o, b ≠ x → hp.get? b = some o → h'.get? b = some o) → hp.objs.size ≤ dx → dx ≠ x → h'.get? x = some { cls := .ref C, dict := some dx, data := .fields fv } → h'.Ns1 dx (fun y => if y = name then some v else none) → R (.ok (.ret .none)) ⟨h', g, d, tk', os⟩) :
    codeAny (model prog w) A (.call (.builtin "object.__setattr__") ⟨[.ref x, .str name tk, v], []⟩) R ⟨hp, g, d, t, os⟩ := by
  have J : PySem.W.InstAt hp x { cls := .ref C, data := .fields fv } C none := ⟨hx, rfl, rfl, trivial⟩
  have SF := F.store_object
  have hne := hm.ne hb
  have hobj : cd.mro.contains (.type "object") = true := (hm.has "object").trans hb.ob
  have hxs : x ≠ hp.objs.size := Nat.ne_of_lt (Heap.lt_size hx)
  have hsub : PySem.W.Looks (model prog w) hp (isInstance (.ref x) (.type "object")) true := J.type.andThen (PySem.W.looks_mroIn X (by unfold PySem.W.mroIn; rw [hcd, Option.bind_some, if_neg (by rw [hne]; decide), hobj]))
  refine codeAny_call_builtin SF.slot.plain SF.entry (@PySem.W.check_slot (model prog w) _ _ ⟨hp, g, d, t, os⟩ "object.__setattr__" "object" "__setattr__" (.ref x) [.str name tk, v] [] _ SF.kind SF.split hsub (SF.args (.ref x) (.str name tk) v) ?_)
  have hmr : PySem.W.Looks (model prog w) hp (mroOf (.ref C)) cd.mro := (PySem.W.looks_clsIn X hcd).andThen .now
  have h3 : PySem.W.Looks (model prog w) hp (storeTaker? none) none := .now
  have hcls : PySem.W.Looks (model prog w) hp (classData C) cd := PySem.W.looks_clsIn X hcd
  rw [PySem.W.osa_eq, refuse_eq]
  refine wpAny_bind (wpAny_bind (J.type.at (wpAny_bind (hmr.at ?_))))
  rw [hm.pass hb]
  refine wpAny_pure (wpAny_bind (J.type.at (wpAny_bind ((PySem.W.looks_findIn X ha).at (wpAny_bind (h3.at ?_))))))
  show wpAny _ _ (storeInOwnDict (.ref x) (.ref C) (.str name tk) name v false) _ _ _
  obtain ⟨nm, bs, mro, ns, qn, hd, sn, sb, ab, col, del⟩ := cd
  dsimp only at hh
  subst hh
  unfold storeInOwnDict ownDictForStores
  repeat (first | with_reducible refine store_in_new ?_ ?_ | with_reducible refine wpAny_loadPart_at hx ?_ | with_reducible refine hcls.at ?_ | wp_step)
  · exact ⟨_, #[], _, (Heap.get?_update_ne _ _ _ _ hxs.symm).trans (Heap.get?_push_at rfl rfl), rfl, fun e he => absurd he (by simp), fun _ => rfl⟩
  · intro h' tk' hn' hs
    have hx1 : (hp.push { cls := .type "dict", data := .dict #[] }).get? x = some { cls := .ref C, data := .fields fv } := Heap.get?_push_of_some _ hx
    refine hq h' tk' hp.objs.size (fun b o hb ho => ?_) (Nat.le_refl _) hxs.symm ?_ hn'
    · exact (hs.2 b (Nat.ne_of_lt (Heap.lt_size ho))).trans ((Heap.get?_update_ne _ _ _ _ hb).trans (Heap.get?_push_of_some _ ho))
    · exact (hs.2 x hxs).trans (Heap.get?_update_self _ hx1 rfl)
end
section
variable {X : Cx} {pins : List (Addr × Obj)} {σ : L2.St} {H : Hp} {s : Shared} {a C dx : Addr} {f : Str} {y : V} {u : Value} {fs : List (Str × V)} {Q : Unit → Shared → Prop} {E : Value → Shared → Prop} {A : Around}
/-- self.f = y, the first one -/
theorem ostG {b : Bas} (T : OexG b X.K C) (I : Inv X pins σ H s) (e : H a = some (exo a C none)) (hno : PySem.W.findIn X.K (.ref C) f = some none) (ry : RelV y u)
    (h : ∀ dx s', H dx = none → dx ≠ a → Inv X pins σ (upd (upd H dx (exd dx [(f, y)])) a (exo a C (some dx))) s' → Q () s') : wpAny (model X.prog X.w) A (setAttr (.ref a) f u) Q E s := by
  obtain ⟨nm, q, N, bs, bm, sn, sub, ab, col, dd, k0, k1, k2, k3, k5, hC, hbm⟩ := T.cls
  have hcl : PySem.W.clsIn X.K C = some { name := nm, bases := bs, mro := .ref C :: bm, ns := N, qualname := q, hasDict := true, slotNames := sn, subclasses := sub, abstract := ab, collection := col, hasDel := false } := by unfold PySem.W.clsIn; rw [hC] <;> rfl
  obtain ⟨t1, ho⟩ := exo_at I.hok e
  obtain ⟨hp, g, d, t, os⟩ := s
  refine PySem.W.set_plain I.kIn (ox := { cls := .ref C, dict := none, data := .fields #[.ref t1, .none, .none, .none, .bool false, .none] }) (od := none) ⟨ho, rfl, rfl, trivial⟩ T.sa ?_
  refine osa_first T.ok I.kIn ho hcl (show Over b (.ref C :: bm) from hbm.cons) rfl hno (fun h' tk' dx k dn dne hx hn => ?_)
  have hnd : H dx = none := I.hok.fresh dn
  have nd : ∀ {b : Addr} {o : Obj}, hp.get? b = some o → b ≠ dx := fun {b o} q => Nat.ne_of_lt (Nat.lt_of_lt_of_le (Heap.lt_size q) dn)
  have na : ∀ {b : Addr}, H b = none → b ≠ a := fun {b} n z => by rw [z, e] at n; cases n
  have un1 : Un X.fs [] H (upd (upd H dx (exd dx [(f, y)])) a (exo a C (some dx))) hp h' := {
    keep := fun b o q n _ _ => k b o (na n) q
    slot := fun b o q n _ _ => ⟨o.slots, k b o (na n) q⟩
    free := fun b o q n _ => by rw [upd_ne (na n), upd_ne (nd q)]; exact n
    there := fun b o q _ => by
      by_cases hb : b = a
      · exact ⟨_, by rw [hb]; exact hx⟩
      · exact ⟨o, k b o hb q⟩
    tups := fun b xs q => by rw [upd_ne (at_ne e q exo_tup), upd_ne (ne_of_none q hnd)]; exact q
    frzs := fun b o v q => by rw [upd_ne (at_ne e q exo_frz), upd_ne (ne_of_none q hnd)]; exact q
    tbls := fun b ps q => ⟨#[], by rw [upd_ne (at_ne e q exo_tbl), upd_ne (ne_of_none q hnd), q]; simp⟩ }
  refine h dx _ hnd dne (I.un (t' := tk') un1 fun b o q => ?_)
  by_cases hb : b = a
  · subst hb
    rw [upd_same] at q; cases q
    exact exo_ok hx
  · rw [upd_ne hb] at q
    by_cases hd : b = dx
    · subst hd
      rw [upd_same] at q; cases q
      exact exd_ok hn (relO_put (fs := []) ry fun g => True.intro)
    · rw [upd_ne hd] at q
      exact (I.hok b o q).stay (fun c v hc z => k c v (by rcases hc with hc | hc; (· rw [hc]; exact hb); (· exact at_ne e hc exo_own)) z)
        (fun c hc => by rw [upd_ne (at_ne e hc exo_own), upd_ne (ne_of_none hc hnd)]; exact hc) (fun c xs hc => by rw [upd_ne (at_ne e hc exo_tup), upd_ne (ne_of_none hc hnd)]; exact hc)
end
/-- self.f = e, in an exception's __init__ -/
def tOstG (K : PySem.W.Frag) (f : Str) (to te : TE) : TS := fun D σ H => te σ H fun y H1 => to σ H1 fun x H2 => ∃ b, ∃ a C : Addr, x = .ref a ∧ OexG b K C ∧ PySem.W.findIn K (.ref C) f = some none ∧
  (H2 a = some (exo a C none) ∧ ∀ dx, H2 dx = none → dx ≠ a → D.nx σ (upd (upd H2 dx (exd dx [(f, y)])) a (exo a C (some dx))))
section
variable {X : Cx} {o e : Expr} {es : List Expr} {to te : TE} {ta : TA} {f : Str} {p p' p1 p2 pos : Pos}
theorem ps_ostG (ho : PE X o to) (he : PE X e te) (hs : swapsWith e (some (.Attribute o f p')) pos.line X.env = pure false := by rfl) : PS X (.Assign [.Attribute o f p'] e pos) (tOstG X.K f to te) := by
  refine ⟨fun pins s σ H D I h => ?_⟩
  refine plainObj_wpAny_Assign_Attribute (thn (he.run pins s σ H _ I h) fun v s1 ⟨y, H1, I1, r1, q1⟩ => thn (ho.run pins s1 σ H1 _ I1 q1) fun u s2 ⟨x, H2, I2, r2, b, a, C, ex, T, hno, ea, q⟩ => ?_) hs
  subst ex
  obtain rfl : u = Value.ref a := r2
  exact ostG T I2 ea hno r1 fun dx s' n ne J => ⟨σ, _, J, q dx n ne⟩
/-- C(e, ..), an exception -/
theorem pmk_oexG {CX : CXT} {x : Str} {C fI : Addr} {k : Nat} {fd : FuncData} {ps : List Str} {sp : Sp} {ds : List Value} {dvs : List V} {b : Bas} (T : OexG b X.K C) (iC : PySem.W.findIn X.K (.ref C) "__init__" = some (some (.ref fI))) (tI : PySem.W.typeIn X.K (.ref fI) = some (.type "function"))
    (F1 : FnOk X.prog X.w X.K X.mg X.base CX k fI fd ps sp) (hr : Room (k + 1) X.A) (hb : Binds X.K fd ps ds) (hd : Vals dvs ds) (hx : Passes CX X (fun _ _ _ => False)) (hg : Gl X x) (hm : X.mg x = some (.ref C)) (ha : PA X (e :: es) ta)
    (hdb : (x == ("__debug__" : Str)) = false := by decide) (he : starEach (e :: es) X.env = (false, eval e X.env) :: starEach es X.env := by rfl) (hpl : (backTo pos (starEach es X.env)).any (·.1) = false := by rfl) :
    PMk X (.Call (.Name x p) (e :: es) [] pos) (tMkO C sp dvs ta) := by
  intro pins s σ H Q I h
  obtain ⟨nm, q, N, bs, bm, sn, sub, ab, col, dd, k0, k1, k2, k3, k5, hC, hbm⟩ := T.cls
  refine wpAny_Call_Name_kw (ld_glob I hg hm ?_ hdb)
  refine PySem.W.callWith_K (h₀ := X.base) I.ok.mod.kin T.kC (thn (ha.run pos pins s σ H _ I h) fun us s1 ⟨vs, H1, I1, r1, hz, q1⟩ => ⟨I1.kIn, ?_⟩) he hpl
  show wpAny _ _ (call (.ref C) us) _ _ _
  obtain ⟨hp, g, dr, tk, os⟩ := s1
  have hsz : hp.objs.size ≤ hp.objs.size + 1 := Nat.le_succ _
  have hn : H1 (hp.objs.size + 1) = none := I1.hok.fresh hsz
  have hq := q1 (hp.objs.size + 1) hn
  have kk : ∀ b o, hp.get? b = some o → ((hp.push (PySem.W.kdv_tup us)).push (PySem.HandSPX.excO C hp.objs.size)).get? b = some o := fun b o e => Heap.get?_push_of_some _ (Heap.get?_push_of_some _ e)
  have hget : ((hp.push (PySem.W.kdv_tup us)).push (PySem.HandSPX.excO C hp.objs.size)).get? (hp.objs.size + 1) = some (PySem.HandSPX.excO C hp.objs.size) := by heap_get
  have I2 : Inv X pins σ (upd H1 (hp.objs.size + 1) (exo (hp.objs.size + 1) C none)) ⟨(hp.push (PySem.W.kdv_tup us)).push (PySem.HandSPX.excO C hp.objs.size), g, dr, tk, os⟩ :=
    I1.laid (t' := tk) (a := hp.objs.size + 1) (o := exo (hp.objs.size + 1) C none) (h' := (hp.push (PySem.W.kdv_tup us)).push (PySem.HandSPX.excO C hp.objs.size)) kk hsz (exo_ok hget)
  have r2 : Vals (V.ref (hp.objs.size + 1) :: (vs ++ dvs)) (Value.ref (hp.objs.size + 1) :: (us ++ ds)) := .cons rfl (r1.append hd)
  have hl : (Value.ref (hp.objs.size + 1) :: us ++ ds).length = ps.length := by have e := r2.length; rw [F1.len _ _ _ _ hq] at e; exact e.symm
  have hus : us.length ≤ sizeLine := by rw [← Paired.length r1, sizeLine_eq]; omega
  refine wpAny_call (PySem.HandSPX.call_own T.ok.F (fun Y => hbm.has Y) (I1.kIn _ _ hC) (PySem.W.looks_findIn I1.kIn iC) (fun self => PySem.W.bind_fn I1.kIn self tI) hus
    (codeAny_mono (F1.run _ X.stack _ _ ⟨Value.ref (hp.objs.size + 1) :: us, []⟩ (Value.ref (hp.objs.size + 1) :: (us ++ ds)) _ _ (fun _ _ _ => False) (hr.make C us []) (I2.env0.make C us []) (hb _ (Value.ref (hp.objs.size + 1) :: us) I2.kIn hl) r2 hq) fun r s' hq' => ?_))
  cases r with
  | error er => exact hx pins σ _ _ er s' I2 hq'
  | ok fl =>
    cases fl with
    | ret u =>
      obtain ⟨v, H2, os2, bare2, un2, hok2, rv, ev, d, fs, ea, ed, hd1, q2⟩ := hq'
      subst ev
      obtain ⟨h2, g2, d2, t2, os'⟩ := s'
      exact ⟨rv, mk_end (raises_own T.exC T.tyC) I1 hsz kk un2 hok2 os2 bare2 ea ed hd1 q2⟩
    | next => exact hq'.elim
    | brk => exact hq'.elim
    | cont => exact hq'.elim
end
end DL

set_option maxRecDepth 100000
set_option maxHeartbeats 2000000
namespace DL
open PySem PySem.Spec L2
open PyProof.Rows hiding St

/-! ### x.f = value -/
def putO (f : Str) (w : F) : List Str → List F → List Str × List F
  | n :: ns, g :: fs => if n = f then (n :: ns, w :: fs) else (n :: (putO f w ns fs).1, g :: (putO f w ns fs).2)
  | _, _ => ([f], [w])
section
variable {K : PySem.W.Frag} {H H' G G' : Hp} {own own' : Own} {i : Option Nat} {f : Str}
theorem putO_mem {w : F} {y : Str} : ∀ {ns : List Str} {fs : List F}, y ∈ (putO f w ns fs).1 → y ∈ ns ∨ y = f
  | [], fs, h => by simp [putO] at h; exact .inr h
  | n :: ns, [], h => by simp [putO] at h; exact .inr h
  | n :: ns, g :: fs, h => by
    simp only [putO] at h
    by_cases e : n = f
    · rw [if_pos e] at h; exact .inl h
    · rw [if_neg e] at h
      rcases List.mem_cons.mp h with h | h
      · exact .inl (h ▸ List.mem_cons_self)
      · rcases putO_mem h with h | h
        · exact .inl (List.mem_cons_of_mem _ h)
        · exact .inr h
theorem putO_nodup {w : F} : ∀ {ns : List Str} {fs : List F}, ns.Nodup → (putO f w ns fs).1.Nodup
  | [], fs, h => by simp [putO]
  | n :: ns, [], h => by simp [putO]
  | n :: ns, g :: fs, h => by
    obtain ⟨h1, h2⟩ := List.nodup_cons.mp h
    simp only [putO]
    by_cases e : n = f
    · rw [if_pos e]; exact h
    · rw [if_neg e]
      refine List.nodup_cons.mpr ⟨fun z => ?_, putO_nodup h2⟩
      rcases putO_mem z with z | z
      · exact h1 z
      · exact e z
theorem rfs_put {w : F} {y : V} (hH : ∀ a t u, own a = some (i, some t) → H a = some u → H' a = some u ∧ own' a = some (i, some t)) (e : Ext G G') (hw : RF K H' G' own' i f w y) :
    ∀ {ns : List Str} {fs : List F} {vf : List (Str × V)}, RFs K H G own i ns fs vf → RFs K H' G' own' i (putO f w ns fs).1 (putO f w ns fs).2 (putF f y vf)
  | [], [], [], _ => ⟨rfl, hw, trivial⟩
  | n :: ns, g :: fs, p :: r, ⟨h1, h2, h3⟩ => by
    have mv : ∀ {t : Str} {g : F} {v : V}, RF K H G own i t g v → RF K H' G' own' i t g v := fun {t g v} h => by
      cases g with
      | v d => exact RV.mono e _ _ h
      | lst l =>
        obtain ⟨a, xs, k1, k2, k3, k4⟩ := h
        exact ⟨a, xs, k1, (hH a _ _ k3 k2).1, (hH a _ _ k3 k2).2, RVs.mono e _ _ k4⟩
      | dic ks l =>
        obtain ⟨a, xs, k1, k2, k3, k4, k5⟩ := h
        exact ⟨a, xs, k1, (hH a _ _ k3 k2).1, (hH a _ _ k3 k2).2, k4, RVs.mono e _ _ k5⟩
    have mvs : ∀ {ns : List Str} {fs : List F} {vf : List (Str × V)}, RFs K H G own i ns fs vf → RFs K H' G' own' i ns fs vf := by
      intro ns
      induction ns with
      | nil => intro fs vf h; cases fs <;> cases vf <;> first | trivial | exact h.elim
      | cons n ns ih =>
        intro fs vf h
        cases fs with
        | nil => exact h.elim
        | cons g fs =>
          cases vf with
          | nil => exact h.elim
          | cons p r => exact ⟨h.1, mv h.2.1, ih h.2.2⟩
    obtain ⟨pn, pv⟩ := p
    obtain rfl : pn = n := h1
    simp only [putO]
    show RFs K H' G' own' i _ _ (if pn = f then (pn, y) :: r else (pn, pv) :: putF f y r)
    by_cases z : pn = f
    · rw [if_pos z, if_pos z]
      refine ⟨rfl, ?_, mvs h3⟩
      rw [z]; exact hw
    · rw [if_neg z, if_neg z]
      exact ⟨rfl, mv h2, rfs_put hH e hw h3⟩
end
def toF : C → Option F
  | .v d => some (.v d)
  | .lst l => some (.lst l)
  | .dic ks vs => some (.dic ks vs)
  | .ins _ _ _ => none
/-- the value at hand becomes slot i's field f -/
def fieldO (own : Own) (i : Nat) (f : Str) : Own := fun a => match own a with
  | some (none, _) => some (some i, some f)
  | z => z
section
variable {X : Cx} {o : Orig} {σ : L2.St} {H G : Hp} {own : Own} {ρ : Env} {np : Nat}
variable {e a b ie tst : Expr} {m : MO} {me ma mb : ME} {mt : MT} {mas : MA} {pos pos' pos'' p : Pos} {x : Str} {q qi : Env → Option C}
theorem Cfg.tagged {K : PySem.W.Frag} {i : Nat} {f : Str} (c : Cfg K o σ H G own ρ) : Cfg K o σ H G (fieldO own i f) ρ := by
  have tn : ∀ a, fieldO own i f a ≠ none → own a ≠ none := fun a h z => by
    unfold fieldO at h; rw [z] at h; exact h rfl
  refine ⟨fun j c' e => ?_, ⟨c.good.rd, c.good.rdi, fun a h => ?_, fun a h => c.good.live a (tn a h)⟩, ⟨c.stp.keep, c.stp.grow, fun a h => c.stp.orig a (tn a h), c.stp.origG, c.stp.there⟩, c.pins⟩
  · obtain ⟨w, h1, h2⟩ := c.er j c' e
    refine ⟨w, h1, h2.move (fun a t u h1 h2 => ⟨h2, ?_⟩) Ext.rfl'⟩
    unfold fieldO; rw [h1]
  · have q := c.good.sep a h
    unfold fieldO; rw [q]
def mFld (cl : List Addr) (i : Nat) (f : Str) (mv : MO) : MS := fun ρ => (mv ρ).bind fun d ρ1 => match qVar i ρ1, toF d with
  | some (.ins c ns fs), some w => if c ∈ cl ∧ fs.length < 1000 then .ok .nx (ρ1.set i (some (.ins c (putO f w ns fs).1 (putO f w ns fs).2))) else .bad
  | _, _ => .bad
theorem rfs_len {K : PySem.W.Frag} {H G : Hp} {own : Own} {i : Option Nat} : ∀ {ns : List Str} {fs : List F} {vf : List (Str × V)}, RFs K H G own i ns fs vf → fs.length = vf.length
  | [], [], [], _ => rfl
  | n :: ns, f :: fs, p :: r, ⟨_, _, h3⟩ => by simp [rfs_len h3]
theorem ss_fld {i : Nat} {f : Str} {cl : List Addr} {apos : Pos} (hC : ∀ C ∈ cl, Cls X.K C ∧ NoAttr X.K C f) (hv : SO X e m) (hN : X.N[i]? = some x) (hvis : Vis X.env.scope x)
    (hs : swapsWith e (some (.Attribute (.Name x pos') f apos)) pos.line X.env = pure false := by rfl)
    (hd : (x == ("__debug__" : Str)) = false := by decide) (hcd : (x == ("__classdict__" : Str)) = false := by decide) : SS X np (.Assign [.Attribute (.Name x pos') f apos] e pos) (mFld cl i f m) := SS.of fun o σ H G own ρ hn c nb =>
  ⟨_, ps_fld (X := Cx.to X o _) (pe_var (X := Cx.to X o _) hN hvis hd hcd) pe_w hs, by
    refine hv.we c (R.bind_nb nb) Xle.bind fun d ρ1 v H1 G1 own1 e1 c1 x1 r1 => ?_
    unfold mFld at nb ⊢
    rw [e1, R.bind_ok] at nb ⊢
    cases e2 : qVar i ρ1 with
    | none => rw [e2] at nb; exact absurd rfl nb
    | some cc =>
      rw [e2] at nb
      cases cc with
      | ins cA ns fs =>
        cases e3 : toF d with
        | none => rw [e3] at nb; exact absurd rfl nb
        | some w =>
          rw [e3] at nb
          dsimp only at nb ⊢
          by_cases hz : cA ∈ cl ∧ fs.length < 1000
          · obtain ⟨wv, j1, j2⟩ := c1.er i _ (qVar_some e2)
            obtain ⟨ad, dx, vf, rfl, j3, j4, j5, j6, j7, j8⟩ := j2
            refine ⟨.ref ad, j1, ad, cA, dx, vf, rfl, j3, (hC cA hz.1).1, (hC cA hz.1).2, by rw [← rfs_len j8]; exact hz.2, ?_⟩
            have c2 : Cfg X.K o σ H1 G1 (fieldO own1 i f) ρ1 := c1.tagged
            have keepO : ∀ a t, own1 a = some (some i, t) → fieldO own1 i f a = some (some i, t) := fun a t h => by unfold fieldO; rw [h]
            refine ⟨_, G1, fieldO own1 i f, if_pos hz, er_set c2 (keepO ad none j5) j1 ?_⟩
            have hdx : dx ≠ ad := fun z => by rw [z, j3] at j4; cases j4
            refine ⟨ad, dx, _, rfl, upd_same, by rw [upd_ne hdx]; exact j4, keepO ad none j5, keepO dx none j6, putO_nodup j7, rfs_put (fun a t u h1 h2 => ⟨?_, keepO a _ h1⟩) Ext.rfl' ?_ j8⟩
            · have : a ≠ ad := fun z => by subst z; rw [j5] at h1; cases h1
              rw [upd_ne this]; exact h2
            · have mvF : ∀ a t u, own1 a = some (none, t) → H1 a = some u → upd H1 ad (.ins cA dx (putF f v vf)) a = some u ∧ fieldO own1 i f a = some (some i, some f) := fun a t u h1 h2 => by
                have : a ≠ ad := fun z => by subst z; rw [j5] at h1; cases h1
                exact ⟨by rw [upd_ne this]; exact h2, by unfold fieldO; rw [h1]⟩
              cases d with
              | v d => cases e3; exact r1
              | lst l =>
                cases e3
                obtain ⟨a2, xs, rfl, k2, k3, k4⟩ := r1
                exact ⟨a2, xs, rfl, (mvF a2 _ _ k3 k2).1, (mvF a2 _ _ k3 k2).2, k4⟩
              | dic ks l =>
                cases e3
                obtain ⟨a2, xs, rfl, k2, k3, k4, k5⟩ := r1
                exact ⟨a2, xs, rfl, (mvF a2 _ _ k3 k2).1, (mvF a2 _ _ k3 k2).2, k4, k5⟩
              | ins _ _ _ => cases e3
          · rw [if_neg hz] at nb; exact absurd rfl nb
      | v d => exact absurd rfl nb
      | lst _ => exact absurd rfl nb
      | dic _ _ => exact absurd rfl nb⟩
/-- {} , [..] as an object of one's own -/
def mDic0 : MO := fun ρ => .ok (.dic [] []) ρ
theorem so_dic0 : SO X (.Dict [] [] pos) mDic0 := SO.of fun o σ H G own ρ c nb => ⟨_, pe_dnewK, fun p hp => ⟨_, ρ, G, _, rfl, c.owned hp (none, none), Ext.rfl', p, [], rfl, upd_same, mark_same, rfl, .nil⟩⟩
def mLstO (ma : MA) : MO := fun ρ => (ma ρ).bind fun l ρ1 => if l.length ≤ sizeLine then .ok (.lst l) ρ1 else .bad
theorem so_lst {es : List Expr} (h : SA X es mas) : SO X (.List es pos) (mLstO mas) := SO.of fun o σ H G own ρ c nb => ⟨_, pe_lst (X := Cx.to X o _) pa_w, by
  refine h.wa c (R.bind_nb nb) Xle.bind fun l ρ1 vs H1 G1 own1 e1 c1 x1 r1 => ?_
  unfold mLstO at nb ⊢
  rw [e1, R.bind_ok] at nb ⊢
  by_cases hz : l.length ≤ sizeLine
  · exact ⟨by rw [← r1.length]; exact hz, fun p hp => ⟨_, ρ1, G1, _, if_pos hz, c1.owned hp (none, none), x1, p, vs, rfl, upd_same, mark_same, r1⟩⟩
  · rw [if_neg hz] at nb; exact absurd rfl nb⟩
/-- {k: v} as an object of one's own (one pair) -/
def mDic1 (mk mv : ME) : MO := fun ρ => (mk ρ).bind fun k ρ1 => (mv ρ1).bind fun v ρ2 => match keyD k with
  | some kk => .ok (.dic [kk] [v]) ρ2
  | none => .bad

/-! ### raise -/
def spBox (ok : Addr → Prop) (K : PySem.W.Frag) (fn : Str) : Sp := fun vs H Q E => ∃ a C v, vs = [.ref a, v] ∧ ok C ∧ PySem.W.findIn K (.ref C) fn = some none ∧ H a = some (exo a C none) ∧
  ∀ dx, H dx = none → dx ≠ a → Q .non (upd (upd H dx (exd dx [(fn, v)])) a (exo a C (some dx)))
/-- an exception's class of the program, whose __init__ keeps its one argument as fn -/
structure Exk (P : Program) (w : World) (K : PySem.W.Frag) (mg : Str → Option Value) (base : Heap) (k : Nat) (x : Str) (C : Addr) (fn : Str) : Prop where
  ox : ∃ b, OexG b K C
  no : PySem.W.findIn K (.ref C) fn = some none
  at_ : mg x = some (.ref C)
  fn : ∃ f fd ps ok, FnOk P w K mg base (fun _ _ _ _ _ _ => False) k f fd ps (spBox ok K fn) ∧ ok C ∧ PySem.W.findIn K (.ref C) "__init__" = some (some (.ref f)) ∧ PySem.W.typeIn K (.ref f) = some (.type "function") ∧ Binds K fd ps []
def mRaise (C : Addr) (fn : Str) (me : ME) : MS := fun ρ => (me ρ).bind fun d ρ1 => .exc C [(fn, d)] ρ1
theorem ss_raise {k j : Nat} {C : Addr} {fn : Str} {cpos : Pos} (hc : X.calm = true) (F : Exk X.prog X.w X.K X.mg X.base k x C fn) (hr : Room j X.A) (hk : k + 1 ≤ j) (hg : Gl X x) (hv : SE X e me)
    (hdb : (x == ("__debug__" : Str)) = false := by decide) (he : starEach [e] X.env = (false, eval e X.env) :: starEach [] X.env := by rfl) (hpl : (backTo cpos (starEach [] X.env)).any (·.1) = false := by rfl) :
    SS X np (.Raise (some (.Call (.Name x p) [e] [] cpos)) none pos) (mRaise C fn me) := by
  obtain ⟨f, fd, ps, ok, F1, okC, iC, tI, hb⟩ := F.fn
  obtain ⟨bb, ox⟩ := F.ox
  refine SS.of fun o σ H G own ρ hn c nb => ⟨_, ps_raise (X := Cx.to X o _) (W := WO X.K o (mRaise C fn me ρ)) hc (fun u s' x => XE.unwish x)
    (pmk_oexG (X := Cx.to X o _) ox iC tI F1 (hr.mono hk) hb (dvs := []) .nil (show Passes (fun _ _ _ _ _ _ => False) _ _ from fun _ _ _ _ _ _ _ h => h.elim) hg F.at_ (pa_cons pe_w pa_nil he) hdb he hpl), ?_⟩
  refine hv.we c (R.bind_nb nb) Xle.bind fun d ρ1 v H1 G1 own1 e1 c1 x1 r1 => ?_
  refine ⟨by simp, fun a ha => ⟨a, C, v, rfl, okC, F.no, upd_same, fun dx hdx hne => ⟨rfl, dx, [(fn, v)], ?_⟩⟩⟩
  rw [upd_ne hne] at hdx
  refine ⟨upd_same, by rw [upd_ne hne, upd_same], hdx, ?_⟩
  have hk : ∀ b u, H1 b = some u → upd (del (upd (upd (upd H1 a (exo a C none)) dx (exd dx [(fn, v)])) a (exo a C (some dx))) a) dx (.xd [(fn, v)]) b = some u := fun b u hb => by
    have n1 : b ≠ dx := ne_of_none hb hdx
    have n2 : b ≠ a := ne_of_none hb ha
    rw [upd_ne n1, del_ne n2, upd_ne n2, upd_ne n1, upd_ne n2]; exact hb
  refine ⟨C, [(fn, d)], ρ1, by unfold mRaise; rw [e1]; rfl, rfl, dx, [(fn, v)], G1, own1, rfl, upd_same, ⟨rfl, .cons r1 .nil⟩, c1.keep hk, c1.good.onone hdx, c1.good.gnone hdx, ?_⟩
  cases z : o.H dx with
  | none => rfl
  | some u => exact absurd hdx (c1.stp.there dx (by rw [z]; simp))
end
end DL

set_option maxRecDepth 100000
set_option maxHeartbeats 1000000
namespace DL
open PySem PySem.Spec L2
open PyProof.Rows hiding St
/-- C's objects may be given to the __init__ that stands in D -/
def supC (b : Bas) (K : PySem.W.Frag) (D C : Addr) : Prop := PySem.W.mroIn K C (.ref D) = some true ∧ PySem.W.ks_superIn K C D "__init__" = some (some (.builtin b.initId)) ∧ PySem.W.subIn K (.ref C) (.type b.B) = some true
def supO (K : PySem.W.Frag) (D C : Addr) : Prop := ∃ b, OexG b K C ∧ supC b K D C
section
variable {X : Cx} {pins : List (Addr × Obj)} {σ : L2.St} {H : Hp} {s : Shared} {a u C : Addr}
/-- the wrapper of ValueError.__init__ at an exception, called -/
theorem mw_call {us : List Value} {Q : Value → Shared → Prop} {E : Value → Shared → Prop} {A : Around} {b : Bas} (T : OexG b X.K C) (I : Inv X pins σ H s) (e : H a = some (exo a C none)) (hu : s.heap.get? u = some (PySem.W.kxs_mw b.initId a))
    (hl : us.length ≤ sizeLine) (h : ∀ s', Inv X pins σ H s' → Q .none s') : wpAny (model X.prog X.w) A (call (.ref u) us) Q E s := by
  obtain ⟨nm, q, N, bs, bm, sn, sub, ab, col, dd, k0, k1, k2, k3, k5, hC, hbm⟩ := T.cls
  obtain ⟨t1, ho⟩ := exo_at I.hok e
  have fin : ∀ h' t2, (∀ b o, b ≠ a → s.heap.get? b = some o → h'.get? b = some o) → h'.get? a = some ({ cls := .ref C, dict := none, data := .fields #[.ref t2, .none, .none, .none, .bool false, .none] } : Obj) → Q .none { s with heap := h' } := fun h' t2 k hx => by
    have J := I.write (t' := s.toks) (x := a) (e := a) (o := exo a C none) (by rw [e]; exact True.intro) (.inl rfl) k ⟨_, hx⟩ (exo_ok hx)
    have eu : upd H a (exo a C none) = H := by
      funext b
      by_cases hb : b = a
      · rw [hb, upd_same, e]
      · rw [upd_ne hb]
    rw [eu] at J
    exact h _ J
  have hC' := I.kIn _ _ hC
  obtain ⟨hh, g, d, tk, os⟩ := s
  refine wpAny_call (codeAny_of_tree ?_)
  show wpAny _ A.in1 (callAny (.ref u) ⟨us, []⟩) _ _ _
  simp only [callAny]
  refine wpAny_bind (wpAny_load hu ?_)
  simp only [PySem.W.kxs_mw, show (Value.type "method-wrapper" == Value.type "method" || Value.type "method-wrapper" == Value.type "builtin_function_or_method" || Value.type "method-wrapper" == Value.type "method-wrapper") = true by decide, if_true]
  refine PySem.W.KFB.if_so (by decide) ?_
  refine wpAny_bind (PySem.W.check_bound_init T.ok.F.toExcCallFacts hC' ho rfl ?_)
  refine wpAny_bind (wpAny_pure (wpAny_pure ?_))
  refine ⟨plainId_quiet T.ok.F.init.plain _, codeAny_builtin T.ok.F.initEntry ?_⟩
  exact PySem.W.exc_init_tree (cls := .ref C) (t0 := t1) (dv := none) (c2 := .none) (c3 := .none) (b4 := .bool false) ho hl (fun h' k hx _ => fin h' _ k hx)
end

section
variable {P : Program} {w : World} {K : PySem.W.Frag} {mg : Str → Option Value} {base : Heap} {f cc cda D : Addr} {name qual told file : Str} {params : Arguments} {scope : Scope} {dV kV doc pm ct oc ccl cl : Value} {an od cdd cld : Option Addr} {osl ccs csl : Array (Option Value)}
  {vs2 : Array Value} {tf : Tok} {cdD : ClassData} {ar : Arg} {p0 p1 p2 p3 p4 p5 p6 p7 p8 p9 : Pos}
def boxBody (told : Str) (p0 p1 p2 p3 p4 p5 p6 p7 p8 p9 : Pos) : List Stmt :=
  [.Expr (.Call (.Attribute (.Call (.Name "super" p0) [] [] p1) "__init__" p2) [.Name told p3] [] p4) p5, .Assign [.Attribute (.Name "self" p6) told p7] (.Name told p8) p9]
theorem cells_one {x : Str} {c cc : Addr} (h : List.lookup x [(("__class__" : Str), cc)] = some c) : x = ("__class__" : Str) ∧ c = cc := by
  simp only [List.lookup] at h
  split at h
  · rename_i z
    exact ⟨by simpa using z, (Option.some.inj h).symm⟩
  · cases h
/-- def __init__(self, told): super().__init__(told); self.told = told -/
theorem box_init {k : Nat} {pl : PySem.Env → Sem Bool} (lk : K.lookup f = some ⟨oc, od, .func (PySem.W.ksFn name qual params (boxBody told p0 p1 p2 p3 p4 p5 p6 p7 p8 p9) scope dV kV doc pm an (.ref cda) ct cc), osl⟩) (hcd : PySem.W.codeIn K (.ref cda) qual = true)
    (hcode : K.lookup cda = some ⟨ccl, cdd, .fields vs2, ccs⟩) (hvs : vs2[2]? = some (.str file tf)) (hfile : ((P.main.file : Str) == file) = true) (htop : (P.main.scope.names.lookup ("super" : Str)).isSome = false)
    (hcell : K.lookup cc = some ⟨cl, cld, .cell (some (.ref D)), csl⟩) (hD : PySem.W.clsIn K D = some cdD) (hopq : PySem.W.nsIn K cStatics "thirdparty.any" = some none) (hms : mg "super" = none)
    (hpar : (params.posonlyargs ++ params.args).head? = some ar) (har : ar.arg = "self")
    (h1 : scope.names.lookup ("self" : Str) = some .local) (h2 : scope.names.lookup told = some .local) (h3 : scope.names.lookup ("__class__" : Str) = some .free) (h4 : scope.names.lookup ("super" : Str) = some .globalImplicit)
    (nocell : ∀ x ∈ scope.names, x.2 ≠ .cell) (fr1 : ∀ x ∈ scope.names, x.2 = .free → x.1 = "__class__") (hk : scope.kind = .function) (hco : scope.isCoroutine = false) (hgen : scope.isGenerator = false)
    (hev : ∀ env : PySem.Env, eval (.Call (.Attribute (.Call (.Name "super" p0) [] [] p1) "__init__" p2) [.Name told p3] [] p4) env = (do
      let ov ← attributeBase (.Call (.Name "super" p0) [] [] p1) "__init__" env (eval (.Call (.Name "super" p0) [] [] p1) env)
      standAt p2.atName
      let (g, first) ← holding [ov] (getMethod ov "__init__" (pl env))
      callWith p4 g first (backTo p4 (starEach [.Name told p3] env)) []))
    (hne : told ≠ "self") (hd : (told == ("__debug__" : Str)) = false) (hcdn : (told == ("__classdict__" : Str)) = false) :
    FnOk P w K mg base (fun _ _ _ _ _ _ => False) k f (PySem.W.ksFn name qual params (boxBody told p0 p1 p2 p3 p4 p5 p6 p7 p8 p9) scope dV kV doc pm an (.ref cda) ct cc) ["self", told] (spBox (supO K D) K told) := by
  refine ⟨fun vs H Q E h => by obtain ⟨a, C, v, rfl, _⟩ := h; rfl, fun A outer s H args us vs Q E hr e0 hbind r hsp => ?_⟩
  obtain ⟨a, C, v, rfl, ⟨b, T, okC⟩, hno, ea, hq⟩ := hsp
  cases r with
  | @cons _ u0 _ ur ra rw' =>
  cases rw' with
  | @cons _ u1 _ ur2 rv rn =>
  cases rn
  obtain rfl : u0 = Value.ref a := ra
  have KX : K.In s.heap := e0.mod.kin.keeps fun b o e => (e0.bs b o e).1
  have lim : s.heap.NoLimit := e0.mod.nolimit.keeps fun b o e => (e0.bs b o e).1
  refine ks_codeAny_call_defAt (fd := PySem.W.ksFn name qual params (boxBody told p0 p1 p2 p3 p4 p5 p6 p7 p8 p9) scope dV kV doc pm an (.ref cda) ct cc) (body := boxBody told p0 p1 p2 p3 p4 p5 p6 p7 p8 p9) (binds := [("self", .ref a), (told, u1)])
    hr.depth (KX _ _ lk) rfl lim (PySem.W.codeRec_of KX hcd) rfl hbind nocell (fun x hx => ?_) (fun g1 hns k1 => ?_) hco hgen hk
  · simp only [List.mem_cons, List.mem_nil_iff, or_false] at hx
    rcases hx with rfl | rfl
    · exact h1
    · exact h2
  generalize henv : callEnv (PySem.W.ksFn name qual params (boxBody told p0 p1 p2 p3 p4 p5 p6 p7 p8 p9) scope dV kV doc pm an (.ref cda) ct cc) s.heap.objs.size f = env
  have esc : env.scope = scope := by rw [← henv]; rfl
  have elo : env.locals = s.heap.objs.size := by rw [← henv]; rfl
  have ece : env.cells = [(("__class__" : Str), cc)] := by rw [← henv]; rfl
  have efu : env.func = some f := by rw [← henv]; rfl
  have eco : env.code = .ref cda := by rw [← henv]; rfl
  have efr : env.frame = some env.locals := by rw [← henv]; rfl
  have egl : env.globals = mainGlobals := by rw [← henv]; rfl
  have ebl : env.builtins = builtinsNs := by rw [← henv]; rfl
  let X : Cx := { prog := P, w := w, K := K, mg := mg, base := base, A := A.deeper env, N := ["self", told], s_0 := s, H_0 := H, env := env, outer := outer, stack := env :: outer, ex := [], fn := fun _ => false, calm := true, pn := [], xe := fun _ _ => False }
  have ek : ∀ x, env.kindOf x = scope.names.lookup x := fun x => by unfold PySem.Env.kindOf; rw [esc]
  have bcc := e0.mod.kin _ _ hcell
  have I : Inv X [] [some (V.ref a), some v] H { s with heap := g1, toks := s.toks + 2 } := by
    refine ⟨⟨e0.mod, by show env.scope.kind = _; rw [esc]; exact hk, egl, ebl, Nat.le_of_eq elo.symm, fun x y c z1 z2 => ?_, fun x hx => ?_, fun x c z _ => absurd z (by show ¬ (false = true); simp), fun _ => hr.hd, Around.frames_deeper e0.frames, .inr ⟨rfl, efr⟩, fun b z => absurd (show b ∈ ([] : List Addr) from z) (by simp), e0.bs, e0.bsz, fun b _ _ z => absurd (show b ∈ ([] : List Addr) from z) (by simp), fun b z => absurd (show b ∈ ([] : List Addr) from z) (by simp), e0.funs, e0.frf⟩,
      rfl, e0.bare, Un.kept k1, ⟨_, by show g1.Ns env.locals _; rw [elo]; exact hns, fun i x y z1 z2 z3 => ?_⟩, fun x c z => ?_, ?_, fun x c z => ?_, fun p hp => absurd (show p ∈ ([] : List (Addr × Obj)) from hp) (by simp), e0.hok.kept k1, rfl⟩
    · have z1' : env.cells.lookup x = some c := z1
      have z2' : env.cells.lookup y = some c := z2
      rw [ece] at z1' z2'
      rw [(cells_one z1').1, (cells_one z2').1]
    · have hx' : env.kindOf x = some .cell ∨ env.kindOf x = some .free := hx
      rw [ek] at hx'
      rcases hx' with z | z
      · exact absurd rfl (nocell _ (PySem.mem_of_lookup z))
      · have y := fr1 _ (PySem.mem_of_lookup z) rfl
        dsimp only at y
        subst y
        exact ⟨cc, by show env.cells.lookup _ = _; rw [ece]; rfl⟩
    · match i, z1, z2 with
      | 0, z1, z2 =>
        have z1 := Option.some.inj z1
        have z2 := Option.some.inj (Option.some.inj z2)
        subst z1
        subst z2
        refine ⟨.ref a, rfl, .inl ⟨(ek _).trans h1, ?_⟩⟩
        show List.lookup ("self" : Str) [(told, u1), (("self" : Str), Value.ref a)] = _
        rw [List.lookup, show (("self" : Str) == told) = false by simpa using Ne.symm hne]
        rfl
      | 1, z1, z2 =>
        have z1 := Option.some.inj z1
        have z2 := Option.some.inj (Option.some.inj z2)
        subst z1
        subst z2
        refine ⟨u1, rv, .inl ⟨(ek _).trans h2, ?_⟩⟩
        show List.lookup told [(told, u1), (("self" : Str), Value.ref a)] = _
        simp [List.lookup]
      | n + 2, z1, z2 => simp [X] at z1
    · have z' : env.cells.lookup x = some c := z
      rw [ece] at z'
      obtain ⟨_, rfl⟩ := cells_one z'
      exact ⟨_, _, k1 _ _ (e0.bs _ _ bcc).1, rfl⟩
    · show H env.locals = none
      rw [elo]
      exact e0.hok.fresh (Nat.le_refl _)
    · have z' : env.cells.lookup x = some c := z
      rw [ece] at z'
      obtain ⟨_, rfl⟩ := cells_one z'
      exact (e0.bs _ _ bcc).2
  have vself : Vis X.env.scope "self" := .inl (by show env.scope.names.lookup _ = _; rw [esc]; exact h1)
  have vtold : Vis X.env.scope told := .inl (by show env.scope.names.lookup _ = _; rw [esc]; exact h2)
  refine ks_wpAt_mono (Q := SP X [] { nx := fun _ H' => Q .non H', rt := fun _ _ => False }) (E := fun _ _ => False) ?_ (fun fl s' hs => ?_) fun e s' z => z.elim
  · obtain ⟨t1, ho⟩ := exo_at I.hok ea
    obtain ⟨mb, hb1, hb2⟩ := I.mod.blt
    have hk' : env.scope.kind = .function := by rw [esc]; exact hk
    have kf := I.kIn _ _ lk
    have kcode := I.kIn _ _ hcode
    have kcell := I.kIn _ _ hcell
    have mself : (fun x => List.lookup x ([(("self" : Str), Value.ref a), (told, u1)].reverse)) ar.arg = some (.ref a) := by
      rw [har]
      show List.lookup ("self" : Str) [(told, u1), (("self" : Str), Value.ref a)] = _
      rw [List.lookup, show (("self" : Str) == told) = false by simpa using Ne.symm hne]
      rfl
    have hns' : g1.Ns env.locals (fun x => List.lookup x ([(("self" : Str), Value.ref a), (told, u1)].reverse)) := by rw [elo]; exact hns
    obtain ⟨oD, hD1, hD2⟩ : ∃ oD, g1.get? D = some oD ∧ oD.data = .cls cdD := by
      unfold PySem.W.clsIn at hD
      split at hD
      · rename_i c d cd' sl hz
        cases hD
        exact ⟨_, I.kIn _ _ hz, rfl⟩
      · cases hD
    obtain ⟨oC, oM, oS⟩ := okC
    cases hc : PySem.W.clsIn K C with
    | none => unfold PySem.W.ks_superIn at oM; rw [hc] at oM; cases oM
    | some cd =>
    unfold PySem.W.ks_superIn at oM
    rw [hc] at oM
    refine ks_wpAt_execs_cons (ks_wpAt_Expr_any (ks_wpAt_MethodCall (ks_wpAt_super_base (by rw [ek]; exact h4) (by rw [ek]; exact h3) (by decide) efu kf rfl hpar eco kcode rfl hvs hfile htop ?_) (hev env)) (by show interactive env = false; simp [interactive, hk']) rfl)
    refine PySem.W.ks_loadName_global hk' (by rw [ek]; exact h4) (Calls.loadGlobal_builtin (by rw [egl]; exact I.mod.glob.keeps I.bk) hms (by rw [ebl]; exact hb1.keeps I.bk) ((hb2 _ (by decide)).trans (by first | exact PyProof.Rows.Boot.«super» | kernel_rfl)) ⟨rfl, ?_⟩)
    refine wpAny_loadName_free hk' (by rw [ek]; exact h3) (by rw [ece]; rfl) ⟨_, kcell, rfl⟩ ?_
    refine wpAny_loadName_local hk' (by rw [ek, har]; exact h1) hns' mself ?_
    refine ks_wpAny_isType_cls hD1 hD2 ⟨rfl, ?_⟩
    refine ks_wpAny_call_super hD1 hD2 ho rfl (fun c z => by cases z) (PySem.W.looks_mroIn I.kIn oC) (fun h' e k' => ?_)
    have J := I.kept (t' := s.toks + 2) k'
    have Iat : PySem.W.InstAt h' a _ C none := ⟨k' _ _ ho, rfl, rfl, trivial⟩
    refine PySem.W.kxs_getMethod T.ok.ks e (PySem.W.looks_opaque J.kIn hopq) (l₀ := cd.mro) (fun A Q E s k q => wpAny_bind ((PySem.W.looks_clsIn J.kIn hc) A _ E s k (wpAny_pure q))) rfl J.kIn oM (Iat.type.andThen (PySem.W.looks_subIn J.kIn oS)) (PySem.W.ks_ne J.kIn Iat hc) (by decide) ?_
    have J2 := J.kept (t' := s.toks + 3) (h' := h'.push (PySem.W.kxs_mw b.initId a)) (fun b o q => Heap.get?_push_of_some _ q)
    have hfresh : H h'.objs.size = none := J.hok.fresh (Nat.le_refl _)
    have J3 : Inv X [(h'.objs.size, PySem.W.kxs_mw b.initId a)] [some (V.ref a), some v] H { s with heap := h'.push (PySem.W.kxs_mw b.initId a), toks := s.toks + 3 } :=
      J2.pins_of fun p hp => by
        rw [List.mem_singleton] at hp
        subst hp
        exact ⟨Heap.get?_push_at rfl rfl, hfresh, fun z => absurd J.lt (by rw [← z]; exact Nat.lt_irrefl _), J.nofs (Nat.le_refl _), fun v z => by cases z⟩
    have hst : starEach [Expr.Name told p3] env = (false, eval (.Name told p3) env) :: starEach [] env := rfl
    have Pa : PA X [Expr.Name told p3] _ := pa_cons (pe_var (X := X) (i := 1) (x := told) (pos := p3) rfl vtold hd hcdn) pa_nil hst
    show wpAny _ _ (callWith p4 (.ref h'.objs.size) [] (backTo p4 (starEach [Expr.Name told p3] env)) []) _ _ _
    have pa := Pa.run p4 _ _ _ _ (fun vs H2 => vs.length = 1 ∧ H2 = H) J3 ⟨v, rfl, rfl, rfl⟩
    have pa' : wpAny (model P w) (A.deeper env) (spliced (backTo p4 (starEach [Expr.Name told p3] env))) _ (fun _ _ => False) _ := pa
    rw [hst] at pa' ⊢
    refine PySem.W.kxs_callWith (i := b.initId) (x := a) rfl (PySem.Calls.evalArgs_plain (thn pa' fun us s2 hs => ?_))
    obtain ⟨vs, H2, J4, r4, hl4, rfl⟩ := hs
    have hu := (J4.pin _ (List.mem_append_right _ (List.mem_singleton.mpr rfl))).1
    have J5 : Inv X [] [some (V.ref a), some v] H2 s2 := J4.pins_of fun p hp => absurd hp (by simp)
    refine ⟨hu, ?_⟩
    refine mw_call (X := X) T J5 ea hu ?_ fun s3 J6 => ?_
    · show us.length ≤ sizeLine
      rw [← Paired.length r4, hl4, sizeLine_eq]
      omega
    refine wpAt_of_wpAny ((pss_one (ps_ostG (X := X) (pe_var (i := 0) rfl vself) (pe_var (i := 1) rfl vtold hd hcdn) rfl)).run [] s3 _ H2 { nx := fun _ H' => Q .non H', rt := fun _ _ => False } J6 ?_)
    exact ⟨v, rfl, .ref a, rfl, b, a, C, rfl, T, hno, ea, fun dx n ne => hq dx n ne⟩
  · cases fl with
    | next =>
      obtain ⟨σ', H', J, q⟩ := hs
      exact ⟨.non, H', J.os, J.bare, J.base, J.hok, rfl, q⟩
    | ret u =>
      obtain ⟨_, _, _, _, _, q⟩ := hs
      exact False.elim q
    | brk =>
      obtain ⟨_, _, _, q⟩ := hs
      exact False.elim q
    | cont =>
      obtain ⟨_, _, _, q⟩ := hs
      exact False.elim q
end
end DL

set_option maxRecDepth 100000
set_option maxHeartbeats 1000000
/-! try with several clauses 'except C as n', one name n for all -/
namespace DL
open PySem PySem.Spec L2
open PyProof.Rows hiding St
/-- behind a clause the name is gone -/
def gone (i : Nat) (D : Ends) : Ends := { nx := fun σ' H' => D.nx (σ'.set i none) H', rt := D.rt, bk := fun σ' H' => D.bk (σ'.set i none) H', ct := fun σ' H' => D.ct (σ'.set i none) H' }
abbrev Cl := Value × (Addr → Value → Option Addr → TS)
def wAll (K : PySem.W.Frag) (i : Nat) (Wout : WX) (D : Ends) : List Cl → WX
  | [] => Wout
  | (c, ts) :: r => fun cls d σ H => ∃ b, PySem.W.exmOne K cls c = some b ∧ (b = true → ∀ a, H a = none → ts a cls d (gone i D) (σ.set i (some (.ref a))) H) ∧ (b = false → wAll K i Wout D r cls d σ H)
/-- the clauses as written -/
inductive Cls (X : Cx) (n : Str) : List ExceptHandler → List Cl → Prop
  | nil : Cls X n [] []
  | cons {x : Str} {c : Value} {ts : Addr → Value → Option Addr → TS} {st : Stmt} {sts : List Stmt} {p1 p2 : Pos} {hds : List ExceptHandler} {l : List Cl} (nm : Names X x c)
      (su : ∀ (a : Addr) (oe : Obj) (cls : Value) (d : Option Addr) (pn : List (Addr × Obj)), Zc cls d oe → (∃ vs, oe.data = .fields vs) → PSs (X.suite a ((a, oe) :: pn)) (st :: sts) (ts a cls d)) (tl : Cls X n hds l) :
      Cls X n (.ExceptHandler (some (.Name x p1)) (some n) (st :: sts) p2 :: hds) ((c, ts) :: l)
section
variable {X : Cx} {body : List Stmt} {hd : ExceptHandler} {hds : List ExceptHandler} {l : List Cl} {n : Str} {i : Nat} {pos : Pos} {tb : WX → TS} {Wout : WX}
theorem ps_try_all (stk : X.stack = X.env :: X.outer) (frm : X.env.frame = some X.env.locals) (ndp : X.N.Nodup) (ix : X.N[i]? = some n) (loc : X.env.kindOf n = some .local) (tk : Takes X Wout)
    (hb : ∀ (W : WX) (pn : List (Addr × Obj)) (xe : Value → Shared → Prop), Takes (X.tr pn xe) W → PassesOwn (model X.prog X.w) X.A X.env xe → PSs (X.tr pn xe) body (tb W))
    (hh : Cls X n (hd :: hds) l) : PS X (.Try body (hd :: hds) [] [] pos) (fun D σ H => tb (wAll X.K i Wout D l) D σ H) := by
  refine ⟨fun pins st0 σ0 H0 D inv q0 => ?_⟩
  have okX := inv.ok
  have frames : X.A.frames = some (X.env :: X.outer) := okX.frames.trans (congrArg some stk)
  refine wpAny_Try_except ?_
  let caught : Value → Shared → Prop := fun e s₁ => wpAny (model X.prog X.w) X.A (noteFrame e X.env) (fun _ s₂ => wpAny (model X.prog X.w) X.A (setFlight e none) (fun _ s₃ => wpAny (model X.prog X.w) X.A (handleBy e X.env (hd :: hds)) (SP X pins D) X.xe s₃) X.xe s₂) X.xe s₁
  have takes : Takes (X.tr (X.pn ++ pins) caught) (wAll X.K i Wout D l) := fun u sx z => by
    obtain ⟨a, B, sB, pinsB, σB, HB, cls, d, rfl, invB, nb, up, sky, na, os, ag, w⟩ := z
    have JB : Inv X pins σB HB sB := invB.ofTry okX
    have sky' : Sky B (X.env :: X.outer) a (Zc cls d) X.env.locals sx.heap := stk ▸ sky
    show wpAny (model X.prog X.w) X.A (noteFrame (.ref a) X.env) _ _ _
    refine Sky.land Zc.steady frames frm sky' fun hL flL upL => ?_
    have JL : Inv X pins σB HB { sx with heap := hL } := JB.landed nb flL.1 (up.trans upL) os ag
    obtain ⟨oeL, vsL, atL, zL, fdL⟩ := flL.there
    have nfr : a ∉ frs (X.env :: X.outer) := fun hm => by
      obtain ⟨_, o', e', hnf⟩ := flL.2.2.1.mem hm
      cases atL.symm.trans e'
      exact hnf _ fdL
    have nL : a ≠ X.env.locals := fun z => nfr (List.mem_filterMap.mpr ⟨X.env, List.mem_cons_self, frm.trans (congrArg some z.symm)⟩)
    have nF : a ∉ X.fs := fun hm => by
      obtain ⟨ev, he, q⟩ := List.mem_filterMap.mp hm
      exact nfr (List.mem_filterMap.mpr ⟨ev, List.mem_cons_of_mem _ he, q⟩)
    have SL := JL.suite atL fdL na nL nF
    have walk : ∀ {hs' : List ExceptHandler} {l' : List Cl}, Cls X n hs' l' → wAll X.K i Wout D l' cls d σB HB → wpAny (model X.prog X.w) X.A (handleBy (.ref a) X.env hs') (SP X pins D) X.xe { sx with heap := hL } := by
      intro hs' l' hk
      induction hk with
      | nil =>
        intro w
        refine wpAny_handleBy_nil ?_
        obtain ⟨_, _, _, oe, vs, T, oT, ts', hget, hz, hdat, hfst, _⟩ := id flL
        unfold PySem.passOn
        refine wpAny_bind (wpAny_field hget hdat hfst ?_)
        rw [if_neg (show ¬ ((Value.ref T == Value.none) = true) from by simp)]
        have rest : wpAny (model X.prog X.w) X.A (setFlight (.ref a) X.env.frame) (fun _ sF => wpAny (model X.prog X.w) X.A (throw (.ref a) : Sem Flow) (SP X pins D) X.xe sF) X.xe { sx with heap := hL } := by
          rw [frm]
          exact HandSPX.setFlight_upZ flL fun hF atF upF => wpAny_throw (tk _ _ ⟨a, B, sB, pins, σB, HB, cls, d, rfl, JB, nb, (up.trans upL).trans upF, .inr (.inr (by rw [stk]; exact atF)), na, os, ag, w⟩)
        first
          | exact wpAny_bind (wpAny_pure (wpAny_bind rest))
          | exact wpAny_bind rest
      | @cons x c ts st sts p1 p2 hds2 l2 nm su tl ih =>
        intro w
        obtain ⟨b, eb, yes, no⟩ := w
        refine wpAny_handleBy_cons (codeAny_handlers_test ?_) (by intro q; cases q)
        have looks : PySem.W.Looks (model X.prog X.w) hL (typeOf (.ref a)) cls := fun A Q E s k q => wpAny_typeOf_ref (k _ _ atL) (by rw [zL.1]; exact q)
        have test : ∀ {Q : Value → Shared → Prop} {E : Value → Shared → Prop}, Q c { sx with heap := hL } → wpAny (model X.prog X.w) (X.A.mark (some (.ref a))) (eval (.Name x p1) X.env) Q E { sx with heap := hL } := fun {Q E} q => by
          obtain ⟨g1, g2, g3 | ⟨g3, g4, g5⟩⟩ := nm
          · exact ld_glob (X := X.suite a ((a, oeL) :: (X.pn ++ pins))) SL g1 g3 q g2
          · exact ld_blt (X := X.suite a ((a, oeL) :: (X.pn ++ pins))) SL g1 g3 g4 q g5 g2
        refine test ((PySem.W.exm_one (M := model X.prog X.w) JL.kIn looks eb).here ?_)
        cases b with
        | false => exact ih (no rfl)
        | true =>
          refine codeAny_handlers_suite_as ?_
          refine HandSPX.lands_againZ flL fun hM flM upM => ?_
          have JM : Inv X pins σB HB { sx with heap := hM } := JB.landed nb flM.1 ((up.trans upL).trans upM) os ag
          obtain ⟨oeM, vsM, atM, zM, fdM⟩ := flM.there
          refine store_ok (X := X.suite a ((a, oeM) :: (X.pn ++ pins))) (v := .ref a) (JM.suite atM fdM na nL nF) ndp ix (.inl loc) rfl (fun sN SN => ?_) (.inr loc)
          refine wpAny_mono ((su a oeM cls d (X.pn ++ pins) zM ⟨_, fdM⟩).run [] sN _ HB _ SN (yes rfl a na)) (fun fl sO ho => ?_) (fun _ _ z => False.elim z)
          have over : ∀ {σO : L2.St} {HO : Hp} {Q : Shared → Prop}, Inv (X.suite a ((a, oeM) :: (X.pn ++ pins))) [] σO HO sO → (∀ sP, Inv X pins (σO.set i none) HO sP → Q sP) →
              wpAny (model X.prog X.w) X.A (do bindName X.env n .none; unbindBehindTheSuite X.env n p2) (fun _ sP => Q sP) X.xe sO := fun {σO HO Q} SO hQ => gone_ok (SO.unsuite okX) ndp ix loc hQ
          cases fl with
          | next =>
            obtain ⟨σO, HO, SO, q⟩ := ho
            exact over SO fun sP JP => ⟨_, _, JP, q⟩
          | brk =>
            obtain ⟨σO, HO, SO, q⟩ := ho
            exact over SO fun sP JP => ⟨_, _, JP, q⟩
          | cont =>
            obtain ⟨σO, HO, SO, q⟩ := ho
            exact over SO fun sP JP => ⟨_, _, JP, q⟩
          | ret u =>
            obtain ⟨vO, σO, HO, SO, rO, q⟩ := ho
            exact over SO fun sP JP => ⟨_, _, _, JP, rO, q⟩
    exact walk hh w
  refine wpAny_mono ((hb (wAll X.K i Wout D l) (X.pn ++ pins) caught takes PassesOwn.looking).run [] st0 σ0 H0 D (inv.toTry _) q0) (fun fl s1 hsp => ?_) fun e s1 he => he
  cases fl with
  | next =>
    obtain ⟨σ', H', J', q⟩ := hsp
    exact wpAny_execs_nil ⟨σ', H', J'.ofTry okX, q⟩
  | brk =>
    obtain ⟨σ', H', J', q⟩ := hsp
    exact ⟨σ', H', J'.ofTry okX, q⟩
  | cont =>
    obtain ⟨σ', H', J', q⟩ := hsp
    exact ⟨σ', H', J'.ofTry okX, q⟩
  | ret u =>
    obtain ⟨v, σ', H', J', r, q⟩ := hsp
    exact ⟨v, σ', H', J'.ofTry okX, r, q⟩
end
end DL

set_option maxRecDepth 100000
set_option maxHeartbeats 2000000
namespace DL
open PySem PySem.Spec L2
open PyProof.Rows hiding St

/-! ### comprehensions -/
section
variable {X : Cx} {o : Orig} {σ : L2.St} {H G : Hp} {own : Own} {ρ : Env} {np : Nat}
variable {e a b ie tst elt tg it : Expr} {m : MO} {me ma mb : ME} {mt : MT} {mas : MA} {pos pos' pos'' p : Pos} {x : Str} {q qi : Env → Option C}
/-- no exception where the outcome is a value -/
theorem SE.any {d : D} {ρ' : Env} {Q : VK} {E : Value → Shared → Prop} (h : SE X e me) (c : Cfg X.K o σ H G own ρ) (e1 : me ρ = .ok d ρ') (k : ∀ v H' G' own', Cfg X.K o σ H' G' own' ρ' → Ext G G' → RV X.K G' d v → Q v H') : wE (X.wish E) e σ H Q :=
  wE_mono (h o σ H G own ρ c (by rw [e1]; exact fun z => by cases z)) (fun v H' ⟨d', ρ2, G', own', e2, c', x, rv⟩ => by
    rw [e1] at e2; cases e2
    exact k v H' G' own' c' x rv) fun u s' ⟨_, _, _, _, _, _, _, _, _, _, _, _, _, _, _, _, cl, fs, ρ2, e2, _⟩ => by rw [e1] at e2; cases e2
theorem ST.any {d : Bool} {ρ' : Env} {Q : Bool → Hp → Prop} {E : Value → Shared → Prop} (h : ST X e mt) (c : Cfg X.K o σ H G own ρ) (e1 : mt ρ = .ok d ρ') (k : ∀ H' G' own', Cfg X.K o σ H' G' own' ρ' → Ext G G' → Q d H') : wT (X.wish E) e σ H Q :=
  wT_mono (h o σ H G own ρ c (by rw [e1]; exact fun z => by cases z)) (fun v H' ⟨ρ2, G', own', e2, c', x⟩ => by
    rw [e1] at e2; cases e2
    exact k H' G' own' c' x) fun u s' ⟨_, _, _, _, _, _, _, _, _, _, _, _, _, _, _, _, cl, fs, ρ2, e2, _⟩ => by rw [e1] at e2; cases e2
/-- a clause's tests -/
def SF (X : Cx) (ifs : List Expr) (mt : MT) : Prop := ∃ tt : TT, PTs (X.nox) ifs tt ∧ ∀ o σ H G own ρ b ρ' (Q : Bool → Hp → Prop), Cfg X.K o σ H G own ρ → mt ρ = .ok b ρ' → (∀ H' G' own', Cfg X.K o σ H' G' own' ρ' → Ext G G' → Q b H') → tt σ H Q
def tYesM : MT := fun ρ => .ok true ρ
theorem sf_nil : SF X [] tYesM := ⟨_, pts_nil, fun o σ H G own ρ b ρ' Q c e k => by cases e; exact k H G own c Ext.rfl'⟩
theorem sf_one (h : ST X tst mt) : SF X [tst] mt := ⟨_, pts_one pt_w, fun o σ H G own ρ b ρ' Q c e k => h.any c e k⟩
/-- a target whose slots are among vs -/
def TgW (X : Cx) (vs : List Nat) (tg : Expr) (gt : TG) (g : MG) : Prop := ∀ o σ H G own ρ d v ρ' (Q : L2.St → Hp → Prop), (∀ i ∈ vs, o.vs.length ≤ i) → σ.length = X.N.length → Cfg X.K o σ H G own ρ → ItR tg X.K H G d v → g d ρ = some ρ' →
  (∀ σ', σ'.length = X.N.length → wipe σ' vs = wipe σ vs → Cfg X.K o σ' H G own ρ' → Q σ' H) → gt v σ H Q
def TgWs (X : Cx) (vs : List Nat) (gt : TGs) (g : MGs) : Prop := ∀ o σ H G own ρ l xs ρ' (Q : L2.St → Hp → Prop), (∀ i ∈ vs, o.vs.length ≤ i) → σ.length = X.N.length → Cfg X.K o σ H G own ρ → RVs X.K G l xs → g l ρ = some ρ' →
  (∀ σ', σ'.length = X.N.length → wipe σ' vs = wipe σ vs → Cfg X.K o σ' H G own ρ' → Q σ' H) → gt xs σ H Q
def SW (X : Cx) (vs : List Nat) (tg : Expr) (mg : MG) : Prop := ∃ gt : TG, PG X.nox tg gt ∧ TgW X vs tg gt mg
def SWs (X : Cx) (vs : List Nat) (tg : List Expr) (mg : MGs) : Prop := ∃ gt : TGs, PGs X.nox tg gt ∧ TgWs X vs gt mg
theorem wipe_get {σ : L2.St} {j : Nat} : ∀ {vs : List Nat}, (wipe σ vs)[j]? = if j ∈ vs then (σ[j]?.map fun _ => none) else σ[j]?
  | [] => by simp [wipe]
  | v :: vs => by
    unfold wipe
    by_cases hv : v = j
    · subst hv
      rw [if_pos List.mem_cons_self]
      by_cases hl : v < σ.length
      · rw [List.getElem?_set_self (by rw [wipe_length]; exact hl), List.getElem?_eq_getElem hl]; rfl
      · rw [List.getElem?_eq_none (by rw [List.length_set, wipe_length]; omega), List.getElem?_eq_none (by omega)]; rfl
    · rw [List.getElem?_set_ne hv, wipe_get]
      by_cases hj : j ∈ vs
      · rw [if_pos hj, if_pos (List.mem_cons_of_mem _ hj)]
      · rw [if_neg hj, if_neg (by simp only [List.mem_cons, not_or]; exact ⟨fun z => hv z.symm, hj⟩)]
theorem wipe_set {σ : L2.St} {i : Nat} {v : Option V} {vs : List Nat} (h : i ∈ vs) : wipe (σ.set i v) vs = wipe σ vs := by
  apply List.ext_getElem?
  intro j
  rw [wipe_get, wipe_get]
  by_cases hj : j ∈ vs
  · rw [if_pos hj, if_pos hj]
    by_cases e : i = j
    · subst e
      by_cases hl : i < σ.length
      · rw [List.getElem?_set_self hl, List.getElem?_eq_getElem hl]; rfl
      · rw [List.getElem?_eq_none (by rw [List.length_set]; omega), List.getElem?_eq_none (by omega)]
    · rw [List.getElem?_set_ne e]
  · rw [if_neg hj, if_neg hj, List.getElem?_set_ne (fun z : i = j => hj (by rw [← z]; exact h))]
def gW (i : Nat) : MG := fun d ρ => some (ρ.set i (some (.v d)))
theorem sw_name {i : Nat} {vs : List Nat} (hv : i ∈ vs) (hN : X.N.Nodup) (hi : X.N[i]? = some x) (hx : Loc X.env.scope x) (hf : X.fn x = true ∨ X.env.scope.names.lookup x = some .local) : SW X vs (.Name x pos) (gW i) := ⟨_, pg_name (X := X.nox) hN hi hx hf, fun o σ H G own ρ d v ρ' Q hn hl c ir e k => by
  have rv : RV X.K G d v := by
    rcases ir with h | ⟨h, _⟩
    · exact h
    · cases h
  cases e
  exact k _ (by rw [List.length_set]; exact hl) (wipe_set hv) (c.setv (hn i hv) (by rw [hl]; exact (List.getElem?_eq_some_iff.mp hi).1) rv)⟩
theorem sws_nil {vs : List Nat} : SWs X vs [] gNs0 := ⟨_, pgs_nil, fun o σ H G own ρ l xs ρ' Q hn hl c rv e k => by
  unfold gNs0 at e
  cases l with
  | nil => cases e; exact ⟨rv.inv_nil, k σ hl rfl c⟩
  | cons _ _ => cases e⟩
theorem sws_cons {vs : List Nat} {t : Expr} {ts : List Expr} {g : MG} {gs : MGs} (h1 : SW X vs t g) (h2 : SWs X vs ts gs) (hs : (assignEach (t :: ts) X.env).map (·.2) = assign t X.env :: (assignEach ts X.env).map (·.2) := by rfl) : SWs X vs (t :: ts) (gNs g gs) := by
  obtain ⟨gt, p1, k1⟩ := h1
  obtain ⟨gts, p2, k2⟩ := h2
  refine ⟨_, pgs_cons p1 p2 hs, fun o σ H G own ρ l xs ρ' Q hn hl c rv e k => ?_⟩
  cases l with
  | nil => cases e
  | cons d r =>
    obtain ⟨v, vr, rfl, r1, r2⟩ := rv.inv_cons
    obtain ⟨ρ1, e1, e2⟩ := Option.bind_eq_some_iff.mp (show (g d ρ).bind (gs r) = some ρ' from e)
    exact ⟨v, vr, rfl, k1 o σ H G own ρ d v ρ1 _ hn hl c (.inl r1) e1 fun σ' hl' hw' c' => k2 o σ' H G own ρ1 r vr ρ' Q hn hl' c' r2 e2 fun σ2 hl2 hw2 c2 => k σ2 hl2 (hw2.trans hw') c2⟩
theorem sw_tup {vs : List Nat} {es : List Expr} {kk n : Nat} {gs : MGs} (hc : X.calm = true) (h : SWs X vs es gs) (hn : (assignEach es X.env).length = n := by rfl) (hst : (assignEach es X.env).findIdx? (·.1) = none := by rfl) : SW X vs (.Tuple es kk pos) (gT n gs) := by
  obtain ⟨gts, p2, k2⟩ := h
  refine ⟨_, pg_tup (X := X.nox) hc p2 hn hst, fun o σ H G own ρ d v ρ' Q hvs hl c rv e k => ?_⟩
  unfold gT at e
  split at e
  · rename_i l
    split at e
    · rename_i hz
      obtain ⟨a, xs, rfl, h1, h2⟩ : ∃ a xs, v = .ref a ∧ SqT X.K H a xs ∧ RVs X.K G l xs := by
        rcases rv with rv | ⟨_, l', a, xs, e1, e2, e3, e4⟩
        · obtain ⟨a, xs, e1, h1, h2⟩ := rv.tup_inv
          exact ⟨a, xs, e1, c.good.tup h1, h2⟩
        · cases e1
          exact ⟨a, xs, e2, e3, e4⟩
      exact ⟨a, xs, rfl, h1, by rw [← h2.length]; exact hz, k2 o σ H G own ρ l xs ρ' Q hvs hl c h2 e k⟩
    · cases e
  · cases e
/-- the slots vs are forgotten -/
def wipeE (ρ : Env) (vs : List Nat) : Env := ρ.mapIdx fun i c => if i ∈ vs then none else c
theorem wipeE_some {vs : List Nat} {i : Nat} {c : C} (h : (wipeE ρ vs)[i]? = some (some c)) : i ∉ vs ∧ ρ[i]? = some (some c) := by
  unfold wipeE at h
  rw [List.getElem?_mapIdx] at h
  obtain ⟨c0, h1, h2⟩ := Option.map_eq_some_iff.mp h
  by_cases hi : i ∈ vs
  · rw [if_pos hi] at h2; cases h2
  · rw [if_neg hi] at h2; exact ⟨hi, by rw [h1, h2]⟩
theorem Cfg.wiped {K : PySem.W.Frag} {vs : List Nat} (c : Cfg K o σ H G own ρ) (hv : ∀ i ∈ vs, o.vs.length ≤ i) : Cfg K o (wipe σ vs) H G own (wipeE ρ vs) := by
  refine ⟨fun i c' e => ?_, c.good, c.stp, fun j v e => ?_⟩
  · obtain ⟨h1, h2⟩ := wipeE_some e
    obtain ⟨v, k1, k2⟩ := c.er i c' h2
    exact ⟨v, by rw [wipe_get, if_neg h1]; exact k1, k2⟩
  · have hj : j < o.vs.length := (List.getElem?_eq_some_iff.mp e).1
    rw [wipe_get, if_neg fun z => absurd (hv j z) (by omega)]
    exact c.pins j v e
/-- back behind the block: the other slots as the block left them, its own as they were (what is shared) -/
def joinE (ρ0 ρ : Env) (vs : List Nat) : Env := ρ.mapIdx fun i c => if i ∈ vs then (match ρ0[i]?.join with
  | some (.v d) => some (.v d)
  | _ => none) else c
theorem Cfg.joined {K : PySem.W.Frag} {vs : List Nat} {H0 G0 : Hp} {own0 : Own} {ρ0 : Env} (c0 : Cfg K o σ H0 G0 own0 ρ0) (c : Cfg K o (wipe σ vs) H G own ρ) (x : Ext G0 G) : Cfg K o σ H G own (joinE ρ0 ρ vs) := by
  refine ⟨fun i c' e => ?_, c.good, c.stp, c0.pins⟩
  unfold joinE at e
  rw [List.getElem?_mapIdx] at e
  obtain ⟨c1, h1, h2⟩ := Option.map_eq_some_iff.mp e
  by_cases hi : i ∈ vs
  · rw [if_pos hi] at h2
    cases z : ρ0[i]? with
    | none => rw [z] at h2; cases h2
    | some y =>
      rw [z] at h2
      cases y with
      | none => cases h2
      | some cc =>
        cases cc with
        | v d =>
          cases h2
          obtain ⟨v, k1, k2⟩ := c0.er i _ z
          exact ⟨v, k1, RV.mono x _ _ k2⟩
        | _ => cases h2
  · rw [if_neg hi] at h2
    obtain ⟨v, k1, k2⟩ := c.er i c' (by rw [h1, h2])
    rw [wipe_get, if_neg hi] at k1
    exact ⟨v, k1, k2⟩
/-- a private object: nobody's -/
theorem Cfg.priv {K : PySem.W.Frag} {p : Addr} {u : HO} (c : Cfg K o σ H G own ρ) (h1 : own p = none) (h2 : G p = none) (h3 : o.H p = none) : Cfg K o σ (upd H p u) G own ρ := by
  have k : ∀ b w, b ≠ p → H b = some w → upd H p u b = some w := fun b w hb h => by rw [upd_ne hb]; exact h
  refine ⟨fun i c' h => ?_, ⟨fun b w h => rd_keep (c.good.rd b w h) fun w' h' => k b w' (fun z => by rw [z, h2] at h; cases h) h', fun b ub hub h => k b _ (fun z => by rw [z, h2] at h; cases h) (c.good.rdi b ub hub h), c.good.sep, fun b h => ?_⟩, ⟨fun b w h n => ?_, c.stp.grow, c.stp.orig, c.stp.origG, fun b h => ?_⟩, c.pins⟩
  · obtain ⟨v, k1, k2⟩ := c.er i c' h
    refine ⟨v, k1, k2.move (fun a t w g3 g4 => ⟨k a w (fun z => by subst z; rw [h1] at g3; cases g3) g4, g3⟩) Ext.rfl'⟩
  · have hb : b ≠ p := fun z => by rw [z] at h; exact h h1
    rw [upd_ne hb]; exact c.good.live b h
  · exact k b w (fun z => by rw [z, h3] at h; cases h) (c.stp.keep b w h n)
  · by_cases hb : b = p
    · rw [hb, upd_same]; simp
    · rw [upd_ne hb]; exact c.stp.there b h
/-- .. becomes the value at hand -/
theorem Cfg.claim {K : PySem.W.Frag} {p : Addr} (c : Cfg K o σ H G own ρ) (h1 : own p = none) (h2 : G p = none) (h3 : o.H p = none) (h4 : H p ≠ none) (l : Option Nat × Option Str) : Cfg K o σ H G (mark own p (some l)) ρ := by
  refine ⟨fun i c' h => ?_, ⟨c.good.rd, c.good.rdi, fun b h => ?_, fun b h => ?_⟩, ⟨c.stp.keep, c.stp.grow, fun b h => ?_, c.stp.origG, c.stp.there⟩, c.pins⟩
  · obtain ⟨v, k1, k2⟩ := c.er i c' h
    refine ⟨v, k1, k2.move (fun a t w g3 g4 => ⟨g4, ?_⟩) Ext.rfl'⟩
    rw [mark_ne (fun z => by subst z; rw [h1] at g3; cases g3)]; exact g3
  · have hb : b ≠ p := fun z => by rw [z] at h; exact h h2
    rw [mark_ne hb]; exact c.good.sep b h
  · by_cases hb : b = p
    · rw [hb]; exact h4
    · rw [mark_ne hb] at h; exact c.good.live b h
  · by_cases hb : b = p
    · exact .inr (by rw [hb]; exact h3)
    · rw [mark_ne hb] at h; exact c.stp.orig b h

mutual
def same : D → D → Bool
  | .non, .non => true
  | .bl a, .bl b => a == b
  | .int a, .int b => a == b
  | .str a, .str b => decide (a = b)
  | .tup l, .tup m => sames l m
  | .lst l, .lst m => sames l m
  | .dic ks l, .dic js m => decide (ks = js) && sames l m
  | .ins c ns l, .ins c' ms m => decide (c = c') && (decide (ns = ms) && sames l m)
  | _, _ => false
def sames : List D → List D → Bool
  | [], [] => true
  | a :: l, b :: m => same a b && sames l m
  | _, _ => false
end
mutual
theorem same_eq : ∀ (a b : D), same a b = true → a = b
  | .non, b, h => by cases b <;> simp [same] at h <;> rfl
  | .bl _, b, h => by cases b <;> simp [same] at h; rw [h]
  | .int _, b, h => by cases b <;> simp [same] at h; rw [h]
  | .str _, b, h => by cases b <;> simp [same] at h; rw [h]
  | .tup l, b, h => by cases b <;> simp [same] at h; rw [sames_eq _ _ h]
  | .lst l, b, h => by cases b <;> simp [same] at h; rw [sames_eq _ _ h]
  | .dic ks l, b, h => by cases b <;> simp [same] at h; rw [h.1, sames_eq _ _ h.2]
  | .ins c ns l, b, h => by cases b <;> simp [same] at h; rw [h.1, h.2.1, sames_eq _ _ h.2.2]
theorem sames_eq : ∀ (a b : List D), sames a b = true → a = b
  | [], b, h => by cases b <;> simp [sames] at h; rfl
  | a :: l, b, h => by
    cases b with
    | nil => simp [sames] at h
    | cons b m =>
      simp [sames] at h
      rw [same_eq _ _ h.1, sames_eq _ _ h.2]
end
def chkS (s : Option Nat) (l : List D) (ρ : Env) : Bool := match s with
  | none => true
  | some k => match qVar k ρ with
    | some (.lst l') => sames l' l
    | _ => false
def compM (g : MG) (t : MT) (el : ME) (vs : List Nat) (s : Option Nat) (l0 : List D) : List D → Env → R (List D)
  | [], ρ => if chkS s l0 ρ = true then .ok [] ρ else .bad
  | d :: r, ρ => if chkS s l0 ρ = true then match g d ρ with
    | none => .bad
    | some ρ1 => match t ρ1 with
      | .ok true ρ2 => match el ρ2 with
        | .ok y ρ3 => match compM g t el vs s l0 r (wipeE ρ3 vs) with
          | .ok ys ρ4 => .ok (y :: ys) ρ4
          | _ => .bad
        | _ => .bad
      | .ok false ρ2 => compM g t el vs s l0 r (wipeE ρ2 vs)
      | _ => .bad
    else .bad
def mComp (mi : Env → R (List D)) (s : Option Nat) (g : MG) (t : MT) (el : ME) (vs : List Nat) : MO := fun ρ => (mi ρ).bind fun l ρ1 =>
  if l.length ≤ 1000000 then match compM g t el vs s l l (wipeE ρ1 vs) with
      | .ok ys ρ2 => .ok (.lst ys) (joinE ρ1 ρ2 vs)
      | _ => .bad
    else .bad
theorem compM_chk {g : MG} {el : ME} {vs : List Nat} {s : Option Nat} {l0 l ys : List D} {ρ ρF : Env} (h : compM g mt el vs s l0 l ρ = .ok ys ρF) : chkS s l0 ρ = true := by
  cases z : chkS s l0 ρ with
  | true => rfl
  | false => cases l <;> (simp only [compM, z] at h; cases h)
/-- the block's readings, whatever its context -/
def gAll (X : Cx) (scope : Scope) (tg : Expr) (vs : List Nat) (g : MG) : TG := fun v σ H Q => ∀ s H0 C cl fp gt', PG (X.blk s H0 scope (compEnvC scope cl C X.env) fp) tg gt' → TgW (X.blk s H0 scope (compEnvC scope cl C X.env) fp) vs tg gt' g → gt' v σ H Q
def tAll (X : Cx) (scope : Scope) (ifs : List Expr) (mt : MT) : TT := fun σ H Q => ∀ s H0 C cl fp tt', PTs (X.blk s H0 scope (compEnvC scope cl C X.env) fp) ifs tt' → (∀ o σ H G own ρ b ρ' (Q : Bool → Hp → Prop), Cfg X.K o σ H G own ρ → mt ρ = .ok b ρ' → (∀ H' G' own', Cfg X.K o σ H' G' own' ρ' → Ext G G' → Q b H') → tt' σ H Q) → tt' σ H Q
def eAll (X : Cx) (scope : Scope) (elt : Expr) : TE := fun σ H Q => ∀ s H0 C cl fp, wE (X.blk s H0 scope (compEnvC scope cl C X.env) fp) elt σ H Q
/-- what a turn wants of the rest -/
theorem comp_turn {scope : Scope} {ow : List (Str × Nat)} {g : MG} {el : ME} {ifs : List Expr} {vs : List Nat} (hvs : ∀ i ∈ vs, o.vs.length ≤ i)
    (hg : ∀ (s : Shared) (H : Hp) (C : Addr) (cl : List (Str × Addr)) (fp : List Addr), SW (X.blk s H scope (compEnvC scope cl C X.env) fp) vs tg g)
    (ht : ∀ (s : Shared) (H : Hp) (C : Addr) (cl : List (Str × Addr)) (fp : List Addr), SF (X.blk s H scope (compEnvC scope cl C X.env) fp) ifs mt)
    (he : ∀ (s : Shared) (H : Hp) (C : Addr) (cl : List (Str × Addr)) (fp : List Addr), SE (X.blk s H scope (compEnvC scope cl C X.env) fp) elt el)
    {σ0 : L2.St} {H1 G1 : Hp} {own1 : Own} {ρ1 : Env} {D0 : Addr} {acc : List V} {ds : List D} {s0 : Option Nat} {l0 : List D} {l : List D} {d : D} {ys : List D} {ρF : Env} {x : V} {Nx : Hp → Prop}
    (hl : σ0.length = X.N.length) (c : Cfg X.K o (wipe σ0 vs) H1 G1 own1 ρ1) (hD : H1 D0 = some (.lst acc)) (oD : own1 D0 = none) (gD : G1 D0 = none) (fD : o.H D0 = none) (ra : RVs X.K G1 ds acc) (hz : ds.length + (l.length + 1) ≤ 1000000)
    (rx : ItR tg X.K H1 G1 d x) (e : compM g mt el vs s0 l0 (d :: l) ρ1 = .ok ys ρF)
    (kN : ∀ H' G' own' ρ' acc' ds' ys', Cfg X.K o (wipe σ0 vs) H' G' own' ρ' → Ext G1 G' → H' D0 = some (.lst acc') → own' D0 = none → G' D0 = none → RVs X.K G' ds' acc' → ds'.length + l.length ≤ 1000000 → compM g mt el vs s0 l0 l ρ' = .ok ys' ρF → ds' ++ ys' = ds ++ ys → Nx H') :
    gAll X scope tg vs g x (wipe σ0 vs) H1 fun σ2 H2 => wipe σ2 vs = wipe σ0 vs ∧
      tAll X scope ifs mt σ2 H2 fun b H3 =>
        if b = true then eAll X scope elt σ2 H3 fun y H4 => ∃ acc, H4 D0 = some (.lst acc) ∧ acc.length < sizeLine ∧ Nx (upd H4 D0 (.lst (acc ++ [y]))) else Nx H3 := by
  have hck := compM_chk e
  simp only [compM, hck, if_true] at e
  cases e1 : g d ρ1 with
  | none => rw [e1] at e; cases e
  | some ρ2 =>
    rw [e1] at e
    dsimp only at e
    intro s H0 C cl fp gt' _ k1
    refine k1 o (wipe σ0 vs) H1 G1 own1 ρ1 d x ρ2 _ hvs (by rw [wipe_length]; exact hl) c rx e1 fun σ2 hl2 hw2 c2 => ⟨?_, ?_⟩
    · rw [hw2]
      apply List.ext_getElem?
      intro j
      rw [wipe_get]
      by_cases hj : j ∈ vs
      · rw [if_pos hj, wipe_get, if_pos hj]
        cases σ0[j]? <;> rfl
      · rw [if_neg hj]
    · have ww : wipe σ2 vs = wipe σ0 vs := by
        rw [hw2]
        apply List.ext_getElem?
        intro j
        rw [wipe_get]
        by_cases hj : j ∈ vs
        · rw [if_pos hj, wipe_get, if_pos hj]
          cases σ0[j]? <;> rfl
        · rw [if_neg hj]
      intro s H0 C cl fp tt' _ k2
      cases e2 : mt ρ2 with
      | bad => rw [e2] at e; cases e
      | exc _ _ _ => rw [e2] at e; cases e
      | ok b ρ3 =>
        rw [e2] at e
        have ck : Cfg X.K ⟨H1, G1, own1, o.vs⟩ σ2 H1 G1 own1 ρ2 := c2.rebase
        refine k2 _ σ2 H1 G1 own1 ρ2 b ρ3 _ ck e2 fun H3 G3 own3 c3 x3 => ?_
        have hD3 : H3 D0 = some (.lst acc) := c3.stp.keep D0 _ hD oD
        have oD3 : own3 D0 = none := by
          cases z : own3 D0 with
          | none => rfl
          | some y =>
            rcases c3.stp.orig D0 (by rw [z]; simp) with q | q
            · exact absurd oD q
            · have q' : H1 D0 = none := q
              rw [hD] at q'; cases q'
        have gD3 : G3 D0 = none := by
          cases z : G3 D0 with
          | none => rfl
          | some y =>
            rcases c3.stp.origG D0 (by rw [z]; simp) with q | q | q
            · exact absurd gD q
            · exact absurd oD q
            · have q' : H1 D0 = none := q
              rw [hD] at q'; cases q'
        cases b with
        | false =>
          dsimp only at e
          have c3' := (c2.comp c3).wiped (vs := vs) hvs
          rw [ww] at c3'
          exact kN H3 G3 own3 _ acc ds ys c3' x3 hD3 oD3 gD3 (RVs.mono x3 _ _ ra) (by omega) e rfl
        | true =>
          dsimp only at e
          rw [if_pos rfl]
          intro s H0 C cl fp
          cases e3 : el ρ3 with
          | bad => rw [e3] at e; cases e
          | exc _ _ _ => rw [e3] at e; cases e
          | ok yd ρ4 =>
            rw [e3] at e
            dsimp only at e
            have ck3 : Cfg X.K ⟨H3, G3, own3, o.vs⟩ σ2 H3 G3 own3 ρ3 := (c2.comp c3).rebase
            refine (he s H0 C cl fp).any (E := fun _ _ => False) ck3 e3 fun y H4 G4 own4 c4 x4 ry => ?_
            have hD4 : H4 D0 = some (.lst acc) := c4.stp.keep D0 _ hD3 oD3
            have oD4 : own4 D0 = none := by
              cases z : own4 D0 with
              | none => rfl
              | some y =>
                rcases c4.stp.orig D0 (by rw [z]; simp) with q | q
                · exact absurd oD3 q
                · have q' : H3 D0 = none := q
                  rw [hD3] at q'; cases q'
            have gD4 : G4 D0 = none := by
              cases z : G4 D0 with
              | none => rfl
              | some y =>
                rcases c4.stp.origG D0 (by rw [z]; simp) with q | q | q
                · exact absurd gD3 q
                · exact absurd oD3 q
                · have q' : H3 D0 = none := q
                  rw [hD3] at q'; cases q'
            have hs : sizeLine = 16777216 := sizeLine_eq
            have la := ra.length
            refine ⟨acc, hD4, by omega, ?_⟩
            have c4' : Cfg X.K o σ2 H4 G4 own4 ρ4 := (c2.comp c3).comp c4
            have c5 := (c4'.priv (u := .lst (acc ++ [y])) oD4 gD4 fD).wiped (vs := vs) hvs
            rw [ww] at c5
            split at e
            · rename_i ys' ρ5 e5
              cases e
              exact kN _ G4 own4 _ (acc ++ [y]) (ds ++ [yd]) ys' c5 (x3.trans x4) upd_same oD4 gD4 ((RVs.mono (x3.trans x4) _ _ ra).append (.cons ry .nil)) (by rw [List.length_append, List.length_singleton]; omega) e5 (by simp)
            · cases e
/-! ### what is walked -/
structure Wk (tp : Bool) (K : PySem.W.Frag) (J : It) (l : List D) (H1 G1 : Hp) (own1 : Own) (s : Option Nat) (v0 : V) : Prop where
  goes : ∀ (i : Nat) vs0 σ H G own ρ, i < l.length → Cfg K ⟨H1, G1, own1, vs0⟩ σ H G own ρ → Ext G1 G → chkS s l ρ = true → (∀ k, s = some k → σ[k]? = some (some v0)) → J.go i H
  stops : ∀ vs0 σ H G own ρ, Cfg K ⟨H1, G1, own1, vs0⟩ σ H G own ρ → Ext G1 G → chkS s l ρ = true → (∀ k, s = some k → σ[k]? = some (some v0)) → J.stop l.length H
  yields : ∀ (i : Nat) x H' vs0 σ H G own ρ, i < l.length → Cfg K ⟨H1, G1, own1, vs0⟩ σ H G own ρ → Ext G1 G → chkS s l ρ = true → (∀ k, s = some k → σ[k]? = some (some v0)) → J.yld i H x H' →
    (H' = H ∧ ∃ d, l[i]? = some d ∧ RV K G d x) ∨ (tp = true ∧ ∃ T xs ds, x = .ref T ∧ H T = none ∧ H' = upd H T (.tup xs) ∧ l[i]? = some (.tup ds) ∧ RVs K G ds xs)
def SI (X : Cx) (tg it : Expr) (mi : Env → R (List D)) (s : Option Nat) : Prop := ∀ o σ H G own ρ (α : Type) (r : R α) (RR : It → Hp → Prop), Cfg X.K o σ H G own ρ → mi ρ ≠ .bad → Xle (mi ρ) r →
  (∀ l ρ1 H1 G1 own1 J v0, mi ρ = .ok l ρ1 → Cfg X.K o σ H1 G1 own1 ρ1 → Ext G G1 → Wk (isTup tg) X.K J l H1 G1 own1 s v0 → (∀ k, s = some k → σ[k]? = some (some v0)) → RR J H1) → ∃ wi, PI (Cx.to X o r) tg it wi ∧ wi σ H RR
def iSeq (me : ME) : Env → R (List D) := fun ρ => (me ρ).bind fun d ρ1 => match d with
  | .tup l => .ok l ρ1
  | .lst l => .ok l ρ1
  | .str z => .ok (z.cps.toList.map fun c => .str ⟨#[c]⟩) ρ1
  | _ => .bad
theorem wk_list {tp : Bool} {K : PySem.W.Frag} {H1 : Hp} {own1 : Own} {l : List D} {xs : List V} {G1 : Hp} {a : Addr} {v0 : V} (h1 : G1 a = some (.lst xs)) (h2 : RVs K G1 l xs) : Wk tp K (Itl K a) l H1 G1 own1 none v0 := by
  have w := walk_list (K := K) (a := a) (xs := xs)
  rw [← h2.length] at w
  exact ⟨fun i o σ H G own ρ hi c x _ _ => w.goes i H hi (c.good.lst (x _ _ h1)), fun o σ H G own ρ c x _ _ => w.stops H (c.good.lst (x _ _ h1)), fun i x H' o σ H G own ρ hi c x' _ _ y => by
    obtain ⟨e1, e2⟩ := w.yields i H x H' hi (c.good.lst (x' _ _ h1)) y
    obtain ⟨d, hd, rd⟩ := h2.get' e2
    exact .inl ⟨e1, d, hd, RV.mono x' _ _ rd⟩⟩
theorem wk_tup {tp : Bool} {K : PySem.W.Frag} {H1 : Hp} {own1 : Own} {l : List D} {xs : List V} {G1 : Hp} {a : Addr} {v0 : V} (h1 : TupAt K G1 a xs) (h2 : RVs K G1 l xs) : Wk tp K (Itt K a) l H1 G1 own1 none v0 := by
  have w := walk_tup (K := K) (a := a) (xs := xs)
  rw [← h2.length] at w
  exact ⟨fun i o σ H G own ρ hi c x _ _ => w.goes i H hi (c.good.tup (h1.mono x)), fun o σ H G own ρ c x _ _ => w.stops H (c.good.tup (h1.mono x)), fun i x H' o σ H G own ρ hi c x' _ _ y => by
    obtain ⟨e1, e2⟩ := w.yields i H x H' hi (c.good.tup (h1.mono x')) y
    obtain ⟨d, hd, rd⟩ := h2.get' e2
    exact .inl ⟨e1, d, hd, RV.mono x' _ _ rd⟩⟩
theorem wk_str {tp : Bool} {K : PySem.W.Frag} {H1 : Hp} {own1 : Own} {z : Str} {G1 : Hp} {v0 : V} : Wk tp K (Its z) (z.cps.toList.map fun c => .str ⟨#[c]⟩) H1 G1 own1 none v0 := by
  have hl : (z.cps.toList.map fun c => D.str ⟨#[c]⟩).length = z.cps.size := by simp
  have w := walk_str (z := z)
  rw [← hl] at w
  exact ⟨fun i o σ H G own ρ hi c x _ _ => w.goes i H hi trivial, fun o σ H G own ρ c x _ _ => w.stops H trivial, fun i x H' o σ H G own ρ hi c x' _ _ y => by
    obtain ⟨e1, cc, e2, e3⟩ := w.yields i H x H' hi trivial y
    refine .inl ⟨e1, .str ⟨#[cc]⟩, ?_, by rw [e3]; exact rv_str⟩
    rw [List.getElem?_map, Array.getElem?_toList, e2]; rfl⟩
theorem si_seq (h : SE X it me) : SI X tg it (iSeq me) none := fun o σ H G own ρ α r RR c nb hx k => by
  cases e0 : me ρ with
  | bad => exact absurd e0 (R.bind_nb nb)
  | exc cl fs ρ1 =>
    refine ⟨_, pi_list (X := Cx.to X o r) pe_w, ?_⟩
    refine h.we c (R.bind_nb nb) (Xle.bind.trans hx) fun d ρ1 v H1 G1 own1 e1 c1 x1 r1 => ?_
    rw [e0] at e1; cases e1
  | ok d ρ0 =>
    have nb' := nb
    unfold iSeq at nb'
    rw [e0, R.bind_ok] at nb'
    cases d with
    | tup l =>
      refine ⟨_, pi_tup (X := Cx.to X o r) pe_w, ?_⟩
      refine h.we c (R.bind_nb nb) (Xle.bind.trans hx) fun d ρ1 v H1 G1 own1 e1 c1 x1 r1 => ?_
      rw [e0] at e1; cases e1
      obtain ⟨a, xs, rfl, h1, h2⟩ := r1.tup_inv
      exact ⟨a, rfl, ⟨xs, c1.good.tup h1⟩, k l _ H1 G1 own1 _ .non (by unfold iSeq; rw [e0]; rfl) c1 x1 (wk_tup h1 h2) fun _ z => nomatch z⟩
    | lst l =>
      refine ⟨_, pi_list (X := Cx.to X o r) pe_w, ?_⟩
      refine h.we c (R.bind_nb nb) (Xle.bind.trans hx) fun d ρ1 v H1 G1 own1 e1 c1 x1 r1 => ?_
      rw [e0] at e1; cases e1
      obtain ⟨a, xs, rfl, h1, h2⟩ := r1.lst_inv
      exact ⟨a, rfl, ⟨xs, c1.good.lst h1⟩, k l _ H1 G1 own1 _ .non (by unfold iSeq; rw [e0]; rfl) c1 x1 (wk_list h1 h2) fun _ z => nomatch z⟩
    | str z =>
      refine ⟨_, pi_str (X := Cx.to X o r) pe_w, ?_⟩
      refine h.we c (R.bind_nb nb) (Xle.bind.trans hx) fun d ρ1 v H1 G1 own1 e1 c1 x1 r1 => ?_
      rw [e0] at e1; cases e1
      obtain rfl := r1.str_inv
      exact ⟨z, rfl, k _ _ H1 G1 own1 _ .non (by unfold iSeq; rw [e0]; rfl) c1 x1 wk_str fun _ z => nomatch z⟩
    | _ => exact absurd rfl nb'
/-- a slot's own list, walked as it stands -/
def iSlot (k : Nat) : Env → R (List D) := fun ρ => match qVar k ρ with
  | some (.lst l) => .ok l ρ
  | _ => .bad
theorem si_slot {k : Nat} (hN : X.N[k]? = some x) (hv : Vis X.env.scope x) (hd : (x == ("__debug__" : Str)) = false := by decide) (hcd : (x == ("__classdict__" : Str)) = false := by decide) : SI X tg (.Name x pos) (iSlot k) (some k) := fun o σ H G own ρ α r RR c nb hx kk => by
  unfold iSlot at nb
  cases e0 : qVar k ρ with
  | none => rw [e0] at nb; exact absurd rfl nb
  | some cc =>
    rw [e0] at nb
    cases cc with
    | lst l =>
      refine ⟨_, pi_list (X := Cx.to X o r) (pe_var (X := Cx.to X o r) hN hv hd hcd), ?_⟩
      obtain ⟨v, k1, a, xs, rfl, k2, k3, k4⟩ := c.er k _ (qVar_some e0)
      refine ⟨.ref a, k1, a, rfl, ⟨xs, .of k2⟩, kk l ρ H G own _ (.ref a) (by unfold iSlot; rw [e0]) c Ext.rfl' ?_ fun k' z => by cases z; exact k1⟩
      have rd : ∀ o σ' H' G' own' ρ', Cfg X.K o σ' H' G' own' ρ' → chkS (some k) l ρ' = true → (∀ k', some k = some k' → σ'[k']? = some (some (.ref a))) → ∃ xs, SqL X.K H' a xs ∧ RVs X.K G' l xs := fun o σ' H' G' own' ρ' c' hk hs => by
        unfold chkS at hk
        dsimp only at hk
        split at hk
        · rename_i l' e'
          obtain ⟨v', j1, a', xs', rfl, j2, j3, j4⟩ := c'.er k _ (qVar_some e')
          rw [hs k rfl] at j1
          cases j1
          rw [sames_eq _ _ hk] at j4
          exact ⟨xs', .of j2, j4⟩
        · cases hk
      refine ⟨fun i o σ' H' G' own' ρ' hi c' _ hk hs => ?_, fun o σ' H' G' own' ρ' c' _ hk hs => ?_, fun i x H'' o σ' H' G' own' ρ' hi c' _ hk hs y => ?_⟩
      · obtain ⟨xs', q, t⟩ := rd _ σ' H' G' own' ρ' c' hk hs
        exact walk_list.goes i H' (by rw [← t.length]; exact hi) q
      · obtain ⟨xs', q, t⟩ := rd _ σ' H' G' own' ρ' c' hk hs
        have := walk_list.stops H' q
        rw [← t.length] at this; exact this
      · obtain ⟨xs', q, t⟩ := rd _ σ' H' G' own' ρ' c' hk hs
        obtain ⟨e1, e2⟩ := walk_list.yields i H' x H'' (by rw [← t.length]; exact hi) q y
        obtain ⟨d, hd, rd'⟩ := t.get' e2
        exact .inl ⟨e1, d, hd, rd'⟩
    | _ => exact absurd rfl nb
/-- range(n), range(lo, n) -/
def rngD (lo : Int) (n : Nat) : List D := (List.range n).map fun i => .int (lo + (i : Nat))
theorem wk_range {tp : Bool} {K : PySem.W.Frag} {H1 : Hp} {own1 : Own} {lo : Int} {n : Nat} {G1 : Hp} {v0 : V} : Wk tp K (Itr lo n) (rngD lo n) H1 G1 own1 none v0 := by
  have hl : (rngD lo n).length = n := by simp [rngD]
  have w := walk_range (lo := lo) (n := n)
  refine ⟨fun i o σ H G own ρ hi c x _ _ => w.goes i H (by rw [← hl]; exact hi) trivial, fun o σ H G own ρ c x _ _ => by rw [hl]; exact w.stops H trivial, fun i x H' o σ H G own ρ hi c x' _ _ y => ?_⟩
  obtain ⟨e1, e2⟩ := w.yields i H x H' (by rw [← hl]; exact hi) trivial y
  refine .inl ⟨e1, .int (lo + (i : Nat)), ?_, by rw [e2]; exact rv_int⟩
  unfold rngD
  rw [List.getElem?_map, List.getElem?_range (by rw [← hl]; exact hi)]; rfl
def iRange1 (me : ME) : Env → R (List D) := fun ρ => (me ρ).bind fun d ρ1 => match d with
  | .int j => if -(2 ^ 62) ≤ j ∧ j < 2 ^ 62 then .ok (rngD 0 j.toNat) ρ1 else .bad
  | _ => .bad
def iRange2 (ma mb : ME) : Env → R (List D) := fun ρ => (ma ρ).bind fun d ρ1 => (mb ρ1).bind fun e ρ2 => match d, e with
  | .int i, .int j => if -(2 ^ 62) ≤ i ∧ i < 2 ^ 62 ∧ -(2 ^ 62) ≤ j ∧ j < 2 ^ 62 then .ok (rngD i (j - i).toNat) ρ2 else .bad
  | _, _ => .bad
theorem si_range1 (hg : Gl X "range") (hm : X.mg "range" = none) (ha : SE X a me) (hs : starEach [a] X.env = [(false, eval a X.env)] := by rfl) : SI X tg (.Call (.Name "range" p) [a] [] pos) (iRange1 me) none := fun o σ H G own ρ α r RR c nb hx kk =>
  ⟨_, pi_range1 (X := Cx.to X o r) hg hm (pa_cons pe_w pa_nil hs) hs, by
    refine ha.we c (R.bind_nb nb) (Xle.bind.trans hx) fun d ρ1 v H1 G1 own1 e1 c1 x1 r1 => ?_
    have nb2 := nb
    unfold iRange1 at nb2
    rw [e1, R.bind_ok] at nb2
    cases d with
    | int j =>
      dsimp only at nb2
      by_cases hz : -(2 ^ 62) ≤ j ∧ j < 2 ^ 62
      · obtain rfl := r1.int_inv
        exact ⟨j, rfl, hz.1, hz.2, kk _ ρ1 H1 G1 own1 _ .non (by unfold iRange1; rw [e1]; exact if_pos hz) c1 x1 wk_range fun _ z => nomatch z⟩
      · rw [if_neg hz] at nb2; exact absurd rfl nb2
    | _ => exact absurd rfl nb2⟩
theorem si_range2 (hg : Gl X "range") (hm : X.mg "range" = none) (ha : SE X a ma) (hb : SE X b mb) (hs : starEach [a, b] X.env = [(false, eval a X.env), (false, eval b X.env)] := by rfl) (hs2 : starEach [b] X.env = [(false, eval b X.env)] := by rfl) : SI X tg (.Call (.Name "range" p) [a, b] [] pos) (iRange2 ma mb) none := fun o σ H G own ρ α r RR c nb hx kk =>
  ⟨_, pi_range2 (X := Cx.to X o r) hg hm (pa_cons pe_w (pa_cons pe_w pa_nil hs2) (by rw [hs, hs2])) hs hs2, use2 (α := α) ha hb rfl c nb hx fun d1 d2 ρ2 v1 v2 H2 G2 own2 nb2 e c2 x2 r1 r2 => by
    cases d1 with
    | int i =>
      cases d2 with
      | int j =>
        dsimp only at nb2 e
        by_cases hz : -(2 ^ 62) ≤ i ∧ i < 2 ^ 62 ∧ -(2 ^ 62) ≤ j ∧ j < 2 ^ 62
        · rw [if_pos hz] at e
          obtain rfl := r1.int_inv
          obtain rfl := r2.int_inv
          exact ⟨i, j, rfl, hz, kk _ ρ2 H2 G2 own2 _ .non e c2 x2 wk_range fun _ z => nomatch z⟩
        · rw [if_neg hz] at nb2; exact absurd rfl nb2
      | _ => exact absurd rfl nb2
    | _ => exact absurd rfl nb2⟩
/-- zip of two tuples or lists -/
def zipD : List D → List D → List D
  | d :: l, e :: m => .tup [d, e] :: zipD l m
  | _, _ => []
theorem zipD_len : ∀ {l m : List D}, (zipD l m).length = min l.length m.length
  | [], m => by simp [zipD]
  | d :: l, [] => by simp [zipD]
  | d :: l, e :: m => by simp [zipD, zipD_len (l := l) (m := m)]
theorem zipD_get : ∀ {l m : List D} {i : Nat} {d e : D}, l[i]? = some d → m[i]? = some e → (zipD l m)[i]? = some (.tup [d, e])
  | [], m, i, d, e, h, _ => by simp at h
  | d :: l, [], i, _, _, _, h => by simp at h
  | d :: l, e :: m, 0, _, _, h1, h2 => by simp at h1 h2; subst h1 h2; rfl
  | d :: l, e :: m, i + 1, d', e', h1, h2 => by
    simp only [zipD, List.getElem?_cons_succ] at h1 h2 ⊢
    exact zipD_get h1 h2
theorem wk_zipT {K : PySem.W.Frag} {H1 : Hp} {own1 : Own} {l m : List D} {xs ys : List V} {G1 : Hp} {a b : Addr} {v0 : V} (h1 : TupAt K G1 a xs) (h2 : RVs K G1 l xs) (h3 : TupAt K G1 b ys) (h4 : RVs K G1 m ys) : Wk true K (RZ.ItzT K a b) (zipD l m) H1 G1 own1 none v0 := by
  have hn : (zipD l m).length = min xs.length ys.length := by rw [zipD_len, h2.length, h4.length]
  refine ⟨fun i o σ H G own ρ hi c x _ _ => ?_, fun o σ H G own ρ c x _ _ => ⟨xs, ys, c.good.tup (h1.mono x), c.good.tup (h3.mono x), by rw [hn]; omega⟩, fun i x H' o σ H G own ρ hi c x' _ _ y => ?_⟩
  · have k1 : i < xs.length := by omega
    have k2 : i < ys.length := by omega
    exact ⟨xs, ys, xs[i], ys[i], c.good.tup (h1.mono x), c.good.tup (h3.mono x), by simp [k1], by simp [k2]⟩
  · obtain ⟨T, u, z, e1, e2, e3, e4, e5⟩ := y
    obtain ⟨d, hd, rd⟩ := h2.get' (e4 xs (c.good.tup (h1.mono x')))
    obtain ⟨e, he, re⟩ := h4.get' (e5 ys (c.good.tup (h3.mono x')))
    exact .inr ⟨rfl, T, [u, z], [d, e], e1, e2, e3, zipD_get hd he, .cons (RV.mono x' _ _ rd) (.cons (RV.mono x' _ _ re) .nil)⟩
def iZipM (ma mb : ME) : Env → R (List D) := fun ρ => (ma ρ).bind fun d ρ1 => (mb ρ1).bind fun e ρ2 => match d, e with
  | .tup l, .tup m => .ok (zipD l m) ρ2
  | _, _ => .bad
theorem si_zip {elts : List Expr} {kk : Nat} {tpos : Pos} (hg : Gl X "zip") (hm : X.mg "zip" = none) (ha : SE X a ma) (hb : SE X b mb) (hs : starEach [a, b] X.env = (false, eval a X.env) :: starEach [b] X.env := by rfl) (hs2 : starEach [b] X.env = (false, eval b X.env) :: starEach [] X.env := by rfl) (hpl : (backTo pos (starEach [b] X.env)).any (·.1) = false := by rfl) :
    SI X (.Tuple elts kk tpos) (.Call (.Name "zip" p) [a, b] [] pos) (iZipM ma mb) none := fun o σ H G own ρ α r RR c nb hx kk =>
  ⟨_, RZ.pi_zipA (X := Cx.to X o r) hg hm (pa_cons pe_w (pa_cons pe_w pa_nil hs2) hs) hs hpl, use2 (α := α) ha hb rfl c nb hx fun d1 d2 ρ2 v1 v2 H2 G2 own2 nb2 e c2 x2 r1 r2 => by
    cases d1 with
    | tup l =>
      cases d2 with
      | tup m =>
        obtain ⟨p1, xs, rfl, h1, h2⟩ := r1.tup_inv
        obtain ⟨p2, ys, rfl, h3, h4⟩ := r2.tup_inv
        exact ⟨p1, p2, xs, ys, rfl, .inr ⟨c2.good.tup h1, c2.good.tup h3, kk _ ρ2 H2 G2 own2 _ .non e c2 x2 (wk_zipT h1 h2 h3 h4) fun _ z => nomatch z⟩⟩
      | _ => exact absurd rfl nb2
    | _ => exact absurd rfl nb2⟩
/-- enumerate of a list -/
def enumD : Nat → List D → List D
  | _, [] => []
  | n, d :: l => .tup [.int (n : Nat), d] :: enumD (n + 1) l
theorem enumD_len : ∀ {l : List D} {n : Nat}, (enumD n l).length = l.length
  | [], n => rfl
  | d :: l, n => by simp [enumD, enumD_len (l := l)]
theorem enumD_get : ∀ {l : List D} {n i : Nat} {d : D}, l[i]? = some d → (enumD n l)[i]? = some (.tup [.int ((n + i : Nat) : Int), d])
  | [], n, i, d, h => by simp at h
  | d :: l, n, 0, _, h => by simp at h; subst h; rfl
  | d :: l, n, i + 1, d', h => by
    simp only [enumD, List.getElem?_cons_succ] at h ⊢
    rw [enumD_get (n := n + 1) h]
    have : n + 1 + i = n + (i + 1) := by omega
    rw [this]
theorem wk_enum {K : PySem.W.Frag} {H1 : Hp} {own1 : Own} {l : List D} {xs : List V} {G1 : Hp} {a : Addr} {v0 : V} (h1 : G1 a = some (.lst xs)) (h2 : RVs K G1 l xs) : Wk true K (Ite K a) (enumD 0 l) H1 G1 own1 none v0 := by
  have w := walk_enum (K := K) (a := a) (xs := xs)
  have hn : (enumD 0 l).length = xs.length := by rw [enumD_len, h2.length]
  refine ⟨fun i o σ H G own ρ hi c x _ _ => w.goes i H (by rw [← hn]; exact hi) (c.good.lst (x _ _ h1)), fun o σ H G own ρ c x _ _ => by rw [hn]; exact w.stops H (c.good.lst (x _ _ h1)), fun i x H' o σ H G own ρ hi c x' _ _ y => ?_⟩
  obtain ⟨T, u, z, e1, e2, e3, e4, e5⟩ := w.yields i H x H' (by rw [← hn]; exact hi) (c.good.lst (x' _ _ h1)) y
  cases e4
  obtain ⟨d, hd, rd⟩ := h2.get' e5
  exact .inr ⟨rfl, T, _, [.int ((i : Nat) : Int), d], e1, e2, e3, by have := enumD_get (n := 0) hd; rw [Nat.zero_add] at this; exact this, .cons rv_int (.cons (RV.mono x' _ _ rd) .nil)⟩
def iEnumM (me : ME) : Env → R (List D) := fun ρ => (me ρ).bind fun d ρ1 => match d with
  | .lst l => .ok (enumD 0 l) ρ1
  | _ => .bad
theorem si_enum {elts : List Expr} {kk : Nat} {tpos : Pos} (hg : Gl X "enumerate") (hm : X.mg "enumerate" = none) (ha : SE X a me) (hs : starEach [a] X.env = [(false, eval a X.env)] := by rfl) : SI X (.Tuple elts kk tpos) (.Call (.Name "enumerate" p) [a] [] pos) (iEnumM me) none := fun o σ H G own ρ α r RR c nb hx kk =>
  ⟨_, pi_enum (X := Cx.to X o r) hg hm (pa_cons pe_w pa_nil hs) hs, by
    refine ha.we c (R.bind_nb nb) (Xle.bind.trans hx) fun d ρ1 v H1 G1 own1 e1 c1 x1 r1 => ?_
    have nb2 := nb
    unfold iEnumM at nb2
    rw [e1, R.bind_ok] at nb2
    cases d with
    | lst l =>
      obtain ⟨a, xs, rfl, h1, h2⟩ := r1.lst_inv
      exact ⟨a, xs, rfl, c1.good.lst h1, kk _ ρ1 H1 G1 own1 _ .non (by unfold iEnumM; rw [e1]; rfl) c1 x1 (wk_enum h1 h2) fun _ z => nomatch z⟩
    | _ => exact absurd rfl nb2⟩
theorem SO.ofL {e : Expr} {m : MO} (h : ∀ o σ H G own ρ, σ.length = X.N.length → Cfg X.K o σ H G own ρ → m ρ ≠ .bad → ∃ t, PE (Cx.to X o (m ρ)) e t ∧ t σ H (OkO X.K o σ G (m ρ))) : SO X e m := fun o σ H G own ρ c nb => .sh fun pins s I => by
  obtain ⟨t, ht, q⟩ := h o σ H G own ρ I.len c nb
  exact ht.run pins s σ H _ I q
theorem Cfg.rebase0 {K : PySem.W.Frag} (c : Cfg K o σ H G own ρ) : Cfg K ⟨H, G, own, []⟩ σ H G own ρ := ⟨c.er, c.good, Stp.refl, fun j v e => by simp at e⟩
theorem Cfg.comp0 {K : PySem.W.Frag} {H' G' : Hp} {own' : Own} {ρ' : Env} (c : Cfg K o σ H G own ρ) (c' : Cfg K ⟨H, G, own, []⟩ σ H' G' own' ρ') : Cfg K o σ H' G' own' ρ' := ⟨c'.er, c'.good, c.stp.trans c'.stp, c.pins⟩
/-- what is true of a comprehension turn by turn -/
def PvC (X : Cx) (b : Orig) (σ : L2.St) (vs : List Nat) (G1 : Hp) (D0 : Addr) (g : MG) (t : MT) (el : ME) (s : Option Nat) (l ys : List D) (ρF : Env) (i : Nat) (H' : Hp) : Prop :=
  ∃ G' own' ρ' acc ds ys', Cfg X.K b (wipe σ vs) H' G' own' ρ' ∧ Ext G1 G' ∧ H' D0 = some (.lst acc) ∧ own' D0 = none ∧ G' D0 = none ∧ RVs X.K G' ds acc ∧ ds.length + (l.drop i).length ≤ 1000000 ∧ compM g t el vs s l (l.drop i) ρ' = .ok ys' ρF ∧ ds ++ ys' = ys
theorem wipe_slot {vs : List Nat} {s : Option Nat} {l : List D} {v0 : V} (h : ∀ k, s = some k → σ[k]? = some (some v0)) (c : chkS s l ρ = true) (hw : ∀ k cc, s = some k → qVar k ρ = some cc → k ∉ vs) : ∀ k, s = some k → (wipe σ vs)[k]? = some (some v0) := fun k e => by
  subst e
  have hk : k ∉ vs := by
    unfold chkS at c
    dsimp only at c
    split at c
    · rename_i l' e'
      exact hw k _ rfl e'
    · cases c
  rw [wipe_get, if_neg hk]
  exact h k rfl
theorem comp_parts {E : Value → Shared → Prop} {scope : Scope} {ow : List (Str × Nat)} {g : MG} {el : ME} {ifs : List Expr} {mi : Env → R (List D)} {s : Option Nat} {Q : VK} (hQ : ∀ v H', OkO X.K o σ G (mComp mi s g mt el (ow.map (·.2)) ρ) v H' → Q v H') (hc : X.calm = true) (hN : X.N.Nodup) (ok : BlkOk X.N X.env.scope scope ow)
    (hg : ∀ (s : Shared) (H : Hp) (C : Addr) (cl : List (Str × Addr)) (fp : List Addr), SW (X.blk s H scope (compEnvC scope cl C X.env) fp) (ow.map (·.2)) tg g)
    (ht : ∀ (s : Shared) (H : Hp) (C : Addr) (cl : List (Str × Addr)) (fp : List Addr), SF (X.blk s H scope (compEnvC scope cl C X.env) fp) ifs mt)
    (he : ∀ (s : Shared) (H : Hp) (C : Addr) (cl : List (Str × Addr)) (fp : List Addr), SE (X.blk s H scope (compEnvC scope cl C X.env) fp) elt el)
    (hs : ∀ x, foldedSetIterable it X.env x = pure x) (hl : σ.length = X.N.length) (c : Cfg X.K o σ H G own ρ) (nb : mComp mi s g mt el (ow.map (·.2)) ρ ≠ .bad)
    (hi : ∀ RR : It → Hp → Prop, (∀ l ρ1 H1 G1 own1 J v0, mi ρ = .ok l ρ1 → Cfg X.K o σ H1 G1 own1 ρ1 → Ext G G1 → Wk (isTup tg) X.K J l H1 G1 own1 s v0 → (∀ k, s = some k → σ[k]? = some (some v0)) → RR J H1) → ∃ wi, PI (X.wish E) tg it wi ∧ wi σ H RR) :
    ∃ (wi : TI) (gt : TG) (tt : TT) (te : TE), PI (X.wish E) tg it wi ∧ (∀ (s : Shared) (H : Hp) (C : Addr) (cl : List (Str × Addr)) (fp : List Addr), PG ((X.wish E).blk s H scope (compEnvC scope cl C X.env) fp) tg gt) ∧
      (∀ (s : Shared) (H : Hp) (C : Addr) (cl : List (Str × Addr)) (fp : List Addr), PTs ((X.wish E).blk s H scope (compEnvC scope cl C X.env) fp) ifs tt) ∧ (∀ (s : Shared) (H : Hp) (C : Addr) (cl : List (Str × Addr)) (fp : List Addr), PE ((X.wish E).blk s H scope (compEnvC scope cl C X.env) fp) elt te) ∧
      tLc wi gt tt te (ow.map (·.2)) σ H Q := by
  generalize hvs : ow.map (·.2) = vs at *
  have hg' : ∀ (s' : Shared) (H : Hp) (C : Addr) (cl : List (Str × Addr)) (fp : List Addr), PG ((X.wish E).blk s' H scope (compEnvC scope cl C X.env) fp) tg (gAll X scope tg vs g) := fun s H C cl fp => ⟨fun pins s' σ H' v u Q I r hq => by
    obtain ⟨gt, p, k⟩ := hg s H C cl fp
    exact p.run pins s' σ H' v u Q I r (hq s H C cl fp gt p k)⟩
  have ht' : ∀ (s' : Shared) (H : Hp) (C : Addr) (cl : List (Str × Addr)) (fp : List Addr), PTs ((X.wish E).blk s' H scope (compEnvC scope cl C X.env) fp) ifs (tAll X scope ifs mt) := fun s H C cl fp => ⟨fun pins s' σ H' Q I hq => by
    obtain ⟨tt, p, k⟩ := ht s H C cl fp
    exact p.run pins s' σ H' Q I (hq s H C cl fp tt p k)⟩
  have he' : ∀ (s' : Shared) (H : Hp) (C : Addr) (cl : List (Str × Addr)) (fp : List Addr), PE ((X.wish E).blk s' H scope (compEnvC scope cl C X.env) fp) elt (eAll X scope elt) := fun s H C cl fp => ⟨fun pins s' σ H' Q I hq => hq s H C cl fp pins s' I⟩
  have nbi := R.bind_nb nb
  have key : ∀ l ρ1 H1 G1 own1 J v0, mi ρ = .ok l ρ1 → Cfg X.K o σ H1 G1 own1 ρ1 → Ext G G1 → Wk (isTup tg) X.K J l H1 G1 own1 s v0 → (∀ k, s = some k → σ[k]? = some (some v0)) → ∀ D, H1 D = none → ∃ W : Nat → Nat → Hp → Prop, (∃ m, W 0 m (upd H1 D (.lst []))) ∧ ∀ i m H, W i m H →
      (J.stop i H ∧ Q (.ref D) H) ∨ (J.go i H ∧ ∃ Nx : Hp → Prop, (∀ H', Nx H' → ∃ m', m' < m ∧ W (i + 1) m' H') ∧ ∀ x H', J.yld i H x H' → gAll X scope tg vs g x (wipe σ vs) H' fun σ2 H2 => wipe σ2 vs = wipe σ vs ∧ tAll X scope ifs mt σ2 H2 fun b H3 =>
        if b = true then eAll X scope elt σ2 H3 fun y H4 => ∃ acc, H4 D = some (.lst acc) ∧ acc.length < sizeLine ∧ Nx (upd H4 D (.lst (acc ++ [y]))) else Nx H3) := by
    intro l ρ0 H1 G1 own1 J v0 e0 c1 x1 wk hsv D0 hD
    have e2 : mComp mi s g mt el vs ρ = if l.length ≤ 1000000 then match compM g mt el vs s l l (wipeE ρ0 vs) with
        | .ok ys ρ2 => .ok (.lst ys) (joinE ρ0 ρ2 vs)
        | _ => .bad
      else .bad := by
      unfold mComp
      rw [e0, R.bind_ok]
    obtain ⟨ys, ρF, hz, eC, eM⟩ : ∃ ys ρF, l.length ≤ 1000000 ∧ compM g mt el vs s l l (wipeE ρ0 vs) = .ok ys ρF ∧ mComp mi s g mt el vs ρ = .ok (.lst ys) (joinE ρ0 ρF vs) := by
      by_cases hz : l.length ≤ 1000000
      · rw [if_pos hz] at e2
        cases e3 : compM g mt el vs s l l (wipeE ρ0 vs) with
        | ok ys ρF => exact ⟨ys, ρF, hz, rfl, by rw [e2, e3]⟩
        | exc _ _ _ => rw [e3] at e2; exact absurd e2 nb
        | bad => rw [e3] at e2; exact absurd e2 nb
      · rw [if_neg hz] at e2; exact absurd e2 nb
    have b0 : Cfg X.K ⟨H1, G1, own1, []⟩ σ H1 G1 own1 ρ0 := c1.rebase0
    have h0 : ∀ i ∈ vs, (⟨H1, G1, own1, []⟩ : Orig).vs.length ≤ i := fun _ _ => Nat.zero_le _
    have ck0 := compM_chk eC
    have hws : ∀ k, s = some k → (wipe σ vs)[k]? = some (some v0) := wipe_slot hsv ck0 fun k cc _ e => (wipeE_some (qVar_some e)).1
    have p0 : PvC X ⟨H1, G1, own1, []⟩ σ vs G1 D0 g mt el s l ys ρF 0 (upd H1 D0 (.lst [])) :=
      ⟨G1, own1, wipeE ρ0 vs, [], [], ys, (b0.wiped h0).priv (c1.good.onone hD) (c1.good.gnone hD) hD, Ext.rfl', upd_same, c1.good.onone hD, c1.good.gnone hD, .nil, by simpa using hz, eC, rfl⟩
    refine ⟨fun i m H => m = l.length - i ∧ i ≤ l.length ∧ PvC X ⟨H1, G1, own1, []⟩ σ vs G1 D0 g mt el s l ys ρF i H, ⟨_, rfl, Nat.zero_le _, p0⟩, ?_⟩
    rintro i m H' ⟨rfl, hi, pv⟩
    obtain ⟨G', own', ρ', acc, ds, ys', c', x', hD', oD, gD, ra, hz', e', ey⟩ := id pv
    have ck := compM_chk e'
    by_cases hlt : i < l.length
    · refine .inr ⟨wk.goes i _ _ _ _ _ _ hlt c' x' ck hws, PvC X ⟨H1, G1, own1, []⟩ σ vs G1 D0 g mt el s l ys ρF (i + 1), fun H2 p2 => ⟨l.length - (i + 1), by omega, rfl, hlt, p2⟩, fun x H2 y => ?_⟩
      have go : ∀ (d : D) (H2 G2 : Hp), l[i]? = some d → Cfg X.K ⟨H1, G1, own1, []⟩ (wipe σ vs) H2 G2 own' ρ' → Ext G' G2 → H2 D0 = some (.lst acc) → G2 D0 = none → ItR tg X.K H2 G2 d x →
          gAll X scope tg vs g x (wipe σ vs) H2 fun σ2 H2 => wipe σ2 vs = wipe σ vs ∧ tAll X scope ifs mt σ2 H2 fun b H3 =>
            if b = true then eAll X scope elt σ2 H3 fun y H4 => ∃ acc, H4 D0 = some (.lst acc) ∧ acc.length < sizeLine ∧ PvC X ⟨H1, G1, own1, []⟩ σ vs G1 D0 g mt el s l ys ρF (i + 1) (upd H4 D0 (.lst (acc ++ [y]))) else PvC X ⟨H1, G1, own1, []⟩ σ vs G1 D0 g mt el s l ys ρF (i + 1) H3 := by
        intro d H2 G2 hd c2 x2 hD2 gD2 rx
        have e'' := e'
        have hz'' := hz'
        rw [drop_cons hd] at e'' hz''
        refine comp_turn (o := ⟨H1, G1, own1, []⟩) (ow := ow) h0 hg ht he hl c2 hD2 oD gD2 hD (RVs.mono x2 _ _ ra) (by simpa using hz'') rx e'' ?_
        intro H3 G3 own3 ρ3 acc' ds' ys'' c3 x3 hD3 oD3 gD3 ra3 hz3 e3 ey3
        exact ⟨G3, own3, ρ3, acc', ds', ys'', c3, (x'.trans x2).trans x3, hD3, oD3, gD3, ra3, hz3, e3, ey3.trans ey⟩
      rcases wk.yields i x H2 _ _ _ _ _ _ hlt c' x' ck hws y with ⟨eH, d, hd, rd⟩ | ⟨tp, T, xs, dds, rfl, hT, rfl, hd, rds⟩
      · rw [eH]
        exact go d H' G' hd c' Ext.rfl' hD' gD (.inl rd)
      · obtain ⟨c2, x2⟩ := c'.shared (u := .tup xs) hT
        have hTD : D0 ≠ T := fun z => by rw [z, hT] at hD'; cases hD'
        exact go (.tup dds) _ _ hd c2 x2 (by rw [upd_ne hTD]; exact hD') (by rw [upd_ne hTD]; exact gD) (.inr ⟨tp, dds, T, xs, rfl, rfl, .inl (.inl upd_same), RVs.mono x2 _ _ rds⟩)
    · have e : i = l.length := by omega
      subst e
      refine .inl ⟨wk.stops _ _ _ _ _ _ c' x' ck hws, ?_⟩
      rw [List.drop_length] at e'
      simp only [compM, ck, if_true] at e'
      cases e'
      rw [List.append_nil] at ey
      subst ey
      have c2 := b0.joined c' x'
      have c3 := c2.claim oD gD hD (by rw [hD']; simp) (none, none)
      exact hQ _ _ ⟨_, _, G', _, eM, c1.comp0 c3, x1.trans x', D0, acc, rfl, hD', mark_same, ra⟩
  obtain ⟨wi, pi, wq⟩ := hi _ key
  exact ⟨wi, _, _, _, pi, hg', ht', he', wq⟩
theorem comp_core {E : Value → Shared → Prop} {scope : Scope} {ow : List (Str × Nat)} {g : MG} {el : ME} {ifs : List Expr} {mi : Env → R (List D)} {s : Option Nat} (hc : X.calm = true) (hN : X.N.Nodup) (ok : BlkOk X.N X.env.scope scope ow)
    (hg : ∀ (s : Shared) (H : Hp) (C : Addr) (cl : List (Str × Addr)) (fp : List Addr), SW (X.blk s H scope (compEnvC scope cl C X.env) fp) (ow.map (·.2)) tg g)
    (ht : ∀ (s : Shared) (H : Hp) (C : Addr) (cl : List (Str × Addr)) (fp : List Addr), SF (X.blk s H scope (compEnvC scope cl C X.env) fp) ifs mt)
    (he : ∀ (s : Shared) (H : Hp) (C : Addr) (cl : List (Str × Addr)) (fp : List Addr), SE (X.blk s H scope (compEnvC scope cl C X.env) fp) elt el)
    (hs : ∀ x, foldedSetIterable it X.env x = pure x) (hl : σ.length = X.N.length) (c : Cfg X.K o σ H G own ρ) (nb : mComp mi s g mt el (ow.map (·.2)) ρ ≠ .bad)
    (hi : ∀ RR : It → Hp → Prop, (∀ l ρ1 H1 G1 own1 J v0, mi ρ = .ok l ρ1 → Cfg X.K o σ H1 G1 own1 ρ1 → Ext G G1 → Wk (isTup tg) X.K J l H1 G1 own1 s v0 → (∀ k, s = some k → σ[k]? = some (some v0)) → RR J H1) → ∃ wi, PI (X.wish E) tg it wi ∧ wi σ H RR) :
    ∃ t, PE (X.wish E) (.ListComp elt [⟨tg, it, ifs, 0⟩] scope pos) t ∧ t σ H (OkO X.K o σ G (mComp mi s g mt el (ow.map (·.2)) ρ)) := by
  obtain ⟨wi, gt, tt, te, pi, pg, pt, pe, q⟩ := comp_parts (E := E) (fun _ _ h => h) hc hN ok hg ht he hs hl c nb hi
  exact ⟨_, pe_lc (X := X.wish E) hc hN pi ok pg pt pe hs, q⟩
theorem so_comp {scope : Scope} {ow : List (Str × Nat)} {g : MG} {el : ME} {ifs : List Expr} {mi : Env → R (List D)} {s : Option Nat} (hc : X.calm = true) (hN : X.N.Nodup) (h : SI X tg it mi s) (ok : BlkOk X.N X.env.scope scope ow)
    (hg : ∀ (s : Shared) (H : Hp) (C : Addr) (cl : List (Str × Addr)) (fp : List Addr), SW (X.blk s H scope (compEnvC scope cl C X.env) fp) (ow.map (·.2)) tg g)
    (ht : ∀ (s : Shared) (H : Hp) (C : Addr) (cl : List (Str × Addr)) (fp : List Addr), SF (X.blk s H scope (compEnvC scope cl C X.env) fp) ifs mt)
    (he : ∀ (s : Shared) (H : Hp) (C : Addr) (cl : List (Str × Addr)) (fp : List Addr), SE (X.blk s H scope (compEnvC scope cl C X.env) fp) elt el)
    (hs : ∀ x, foldedSetIterable it X.env x = pure x := by intro _; rfl) : SO X (.ListComp elt [⟨tg, it, ifs, 0⟩] scope pos) (mComp mi s g mt el (ow.map (·.2))) := SO.ofL fun o σ H G own ρ hl c nb =>
  comp_core hc hN ok hg ht he hs hl c nb fun RR k => h o σ H G own ρ C _ RR c (R.bind_nb nb) Xle.bind k
/-- x = [..] on one line, x a local name: the model's other statement -/
theorem ss_setoLc {i : Nat} {x : Str} {py : Pos} {scope : Scope} {ow : List (Str × Nat)} {g : MG} {el : ME} {ifs : List Expr} {mi : Env → R (List D)} {s : Option Nat} {spos : Pos} (hc : X.calm = true) (hN : X.N.Nodup) (hx : X.N[i]? = some x) (hxl : X.env.scope.names.lookup x = some .local) (h : SI X tg it mi s) (ok : BlkOk X.N X.env.scope scope ow)
    (hg : ∀ (s : Shared) (H : Hp) (C : Addr) (cl : List (Str × Addr)) (fp : List Addr), SW (X.blk s H scope (compEnvC scope cl C X.env) fp) (ow.map (·.2)) tg g)
    (ht : ∀ (s : Shared) (H : Hp) (C : Addr) (cl : List (Str × Addr)) (fp : List Addr), SF (X.blk s H scope (compEnvC scope cl C X.env) fp) ifs mt)
    (he : ∀ (s : Shared) (H : Hp) (C : Addr) (cl : List (Str × Addr)) (fp : List Addr), SE (X.blk s H scope (compEnvC scope cl C X.env) fp) elt el)
    (hk : X.env.scope.kind = .function) (hl : (py.line == pos.line) = true) (ha : (scope.names.any fun (n, k) => n == x && (k == .local || k == .cell)) = false)
    (hs : ∀ x, foldedSetIterable it X.env x = pure x := by intro _; rfl) : SS X np (.Assign [.Name x py] (.ListComp elt [⟨tg, it, ifs, 0⟩] scope pos) spos) (mSetO np i (mComp mi s g mt el (ow.map (·.2)))) := SS.ofL fun o σ H G own ρ hn hlen c nb => by
  have nb0 : mComp mi s g mt el (ow.map (·.2)) ρ ≠ .bad := R.bind_nb nb
  have fin : ∀ v H', OkO X.K o σ G (mComp mi s g mt el (ow.map (·.2)) ρ) v H' → gName i v σ H' (En X.K o (mSetO np i (mComp mi s g mt el (ow.map (·.2))) ρ)).nx := ?_
  · obtain ⟨wi, gt, tt, te, pi, pg, pt, pe, q⟩ := comp_parts (E := XE X (WO X.K o (mSetO np i (mComp mi s g mt el (ow.map (·.2))) ρ))) fin hc hN ok hg ht he hs hlen c nb0 fun RR k => h o σ H G own ρ _ _ RR c (R.bind_nb nb0) (Xle.bind.trans Xle.bind) k
    exact ⟨_, ps_setLc (X := X.wish _) hc hN hx hxl (sw_true hk hxl hl ha) pi ok pg pt pe hs, q⟩
  intro v H' hq
  obtain ⟨d, ρ', G', own', e, c', x', rv⟩ := hq
  unfold mSetO at nb ⊢
  rw [e, R.bind_ok] at nb ⊢
  by_cases hz : np ≤ i
  · exact ⟨_, G', _, if_pos hz, c'.seto (by omega) (by rw [hlen]; exact (List.getElem?_eq_some_iff.mp hx).1) rv⟩
  · rw [if_neg hz] at nb; exact absurd rfl nb
/-- .. its value shared at once -/
theorem ss_setLc {i : Nat} {x : Str} {py : Pos} {scope : Scope} {ow : List (Str × Nat)} {g : MG} {el : ME} {ifs : List Expr} {mi : Env → R (List D)} {s : Option Nat} {spos : Pos} (hc : X.calm = true) (hN : X.N.Nodup) (hx : X.N[i]? = some x) (hxl : X.env.scope.names.lookup x = some .local) (h : SI X tg it mi s) (ok : BlkOk X.N X.env.scope scope ow)
    (hg : ∀ (s : Shared) (H : Hp) (C : Addr) (cl : List (Str × Addr)) (fp : List Addr), SW (X.blk s H scope (compEnvC scope cl C X.env) fp) (ow.map (·.2)) tg g)
    (ht : ∀ (s : Shared) (H : Hp) (C : Addr) (cl : List (Str × Addr)) (fp : List Addr), SF (X.blk s H scope (compEnvC scope cl C X.env) fp) ifs mt)
    (he : ∀ (s : Shared) (H : Hp) (C : Addr) (cl : List (Str × Addr)) (fp : List Addr), SE (X.blk s H scope (compEnvC scope cl C X.env) fp) elt el)
    (hk : X.env.scope.kind = .function) (hl : (py.line == pos.line) = true) (ha : (scope.names.any fun (n, k) => n == x && (k == .local || k == .cell)) = false)
    (hs : ∀ x, foldedSetIterable it X.env x = pure x := by intro _; rfl) : SS X np (.Assign [.Name x py] (.ListComp elt [⟨tg, it, ifs, 0⟩] scope pos) spos) (mSet np i (mFrz (mComp mi s g mt el (ow.map (·.2))))) := SS.ofL fun o σ H G own ρ hn hlen c nb => by
  have nb1 : mFrz (mComp mi s g mt el (ow.map (·.2))) ρ ≠ .bad := R.bind_nb nb
  have nb0 : mComp mi s g mt el (ow.map (·.2)) ρ ≠ .bad := R.bind_nb nb1
  have fin : ∀ v H', OkO X.K o σ G (mComp mi s g mt el (ow.map (·.2)) ρ) v H' → gName i v σ H' (En X.K o (mSet np i (mFrz (mComp mi s g mt el (ow.map (·.2)))) ρ)).nx := ?_
  · obtain ⟨wi, gt, tt, te, pi, pg, pt, pe, q⟩ := comp_parts (E := XE X (WO X.K o (mSet np i (mFrz (mComp mi s g mt el (ow.map (·.2)))) ρ))) fin hc hN ok hg ht he hs hlen c nb0 fun RR k => h o σ H G own ρ _ _ RR c (R.bind_nb nb0) ((Xle.bind.trans Xle.bind).trans Xle.bind) k
    exact ⟨_, ps_setLc (X := X.wish _) hc hN hx hxl (sw_true hk hxl hl ha) pi ok pg pt pe hs, q⟩
  intro v H' hq
  obtain ⟨d, ρ', G', own', e, c', x', rv⟩ := hq
  obtain ⟨G2, own2, c2, x2, rv2⟩ := c'.frz rv
  unfold mSet mFrz at nb ⊢
  rw [e, R.bind_ok, R.bind_ok] at nb ⊢
  by_cases hz : np ≤ i
  · exact ⟨_, G2, own2, if_pos hz, c2.setv (by omega) (by rw [hlen]; exact (List.getElem?_eq_some_iff.mp hx).1) rv2⟩
  · rw [if_neg hz] at nb; exact absurd rfl nb
end
end DL

set_option maxRecDepth 100000
set_option maxHeartbeats 2000000
namespace DL
open PySem PySem.Spec L2
open PyProof.Rows hiding St

section
variable {X : Cx} {o : Orig} {σ : L2.St} {H G : Hp} {own : Own} {ρ : Env} {np : Nat}
variable {e a b ie tst elt tg it : Expr} {m : MO} {me ma mb : ME} {mt : MT} {mas : MA} {pos pos' pos'' p : Pos} {x : Str} {q qi : Env → Option C}
/-! ### for, over any walk that is not a slot's own -/
def mForI (mi : Env → R (List D)) (g : MG) (body : MS) : MS := fun ρ => (mi ρ).bind fun l ρ1 => forM g body l ρ1
theorem ss_forI {bst : List Stmt} {g : MG} {body : MS} {mi : Env → R (List D)} (hs : X.stack = X.env :: X.outer) (hf : X.env.frame = some X.env.locals) (hc : X.calm = true) (h : SI X tg it mi none) (hg : SG X np tg g) (hb : SSs X np bst body)
    (hfs : ∀ x, foldedSetIterable it X.env x = pure x := by intro _; rfl) : SS X np (.For tg it bst [] pos) (mForI mi g body) := SS.ofL fun o σ H G own ρ hn hl c nb => by
  obtain ⟨gt, p1, k1⟩ := hg (XE X (WO X.K o (mForI mi g body ρ)))
  have k1' : TgOk X np tg gt g := k1
  have hp : PassesOwn (model X.prog X.w) X.A X.env (XE X (WO X.K o (mForI mi g body ρ))) := passes_xe hs hf
  have key : ∀ l ρ1 H1 G1 own1 J (v0 : V), mi ρ = .ok l ρ1 → Cfg X.K o σ H1 G1 own1 ρ1 → Ext G G1 → Wk (isTup tg) X.K J l H1 G1 own1 none v0 → (∀ k : Nat, none = some k → σ[k]? = some (some v0)) →
      ∃ W : Nat → Nat → L2.St → Hp → Prop, (∃ m, W 0 m σ H1) ∧ ∀ i m σ H, W i m σ H →
        (J.stop i H ∧ (En X.K o (mForI mi g body ρ)).nx σ H) ∨ (J.go i H ∧ ∃ N : L2.St → Hp → Prop, (∀ σ' H', N σ' H' → ∃ m', m' < m ∧ W (i + 1) m' σ' H') ∧ ∀ x H', J.yld i H x H' → gt x σ H' fun σ2 H2 => wSs (Cx.to X o (mForI mi g body ρ)) bst { En X.K o (mForI mi g body ρ) with nx := N, ct := N, bk := (En X.K o (mForI mi g body ρ)).nx } σ2 H2) := by
    intro l ρ1 H1 G1 own1 J v0 e0 c1 x1 wk _
    have eM : mForI mi g body ρ = forM g body l ρ1 := by unfold mForI; rw [e0, R.bind_ok]
    refine ⟨fun i m σ' H' => m = l.length - i ∧ i ≤ l.length ∧ σ'.length = X.N.length ∧ ∃ G' own' ρ', Cfg X.K ⟨H1, G1, own1, o.vs⟩ σ' H' G' own' ρ' ∧ forM g body (l.drop i) ρ' = mForI mi g body ρ, ⟨_, rfl, Nat.zero_le _, hl, G1, own1, ρ1, c1.rebase, eM.symm⟩, ?_⟩
    rintro i m σ' H' ⟨rfl, hi, hl', G', own', ρ', c', e'⟩
    by_cases hlt : i < l.length
    · refine .inr ⟨wk.goes i _ _ _ _ _ _ hlt c' c'.stp.grow rfl (fun _ z => nomatch z), fun σ2 H2 => σ2.length = X.N.length ∧ ∃ G' own' ρ', Cfg X.K ⟨H1, G1, own1, o.vs⟩ σ2 H2 G' own' ρ' ∧ forM g body (l.drop (i + 1)) ρ' = mForI mi g body ρ, fun σ2 H2 ⟨p1, p2⟩ => ⟨l.length - (i + 1), by omega, rfl, hlt, p1, p2⟩, fun x H2 y => ?_⟩
      have go : ∀ (d : D) (H2 G2 : Hp), l[i]? = some d → Cfg X.K ⟨H1, G1, own1, o.vs⟩ σ' H2 G2 own' ρ' → ItR tg X.K H2 G2 d x →
          gt x σ' H2 fun σ2 H2 => wSs (Cx.to X o (mForI mi g body ρ)) bst { En X.K o (mForI mi g body ρ) with nx := fun σ2 H2 => σ2.length = X.N.length ∧ ∃ G' own' ρ', Cfg X.K ⟨H1, G1, own1, o.vs⟩ σ2 H2 G' own' ρ' ∧ forM g body (l.drop (i + 1)) ρ' = mForI mi g body ρ, ct := fun σ2 H2 => σ2.length = X.N.length ∧ ∃ G' own' ρ', Cfg X.K ⟨H1, G1, own1, o.vs⟩ σ2 H2 G' own' ρ' ∧ forM g body (l.drop (i + 1)) ρ' = mForI mi g body ρ, bk := (En X.K o (mForI mi g body ρ)).nx } σ2 H2 := by
        intro d H2 G2 hd c2 rx
        have e'' := e'
        rw [drop_cons hd] at e''
        exact loop_step2 hn hb k1' c1 hl' c2 rx e'' nb .refl
      rcases wk.yields i x H2 _ _ _ _ _ _ hlt c' c'.stp.grow rfl (fun _ z => nomatch z) y with ⟨eH, d, hd, rd⟩ | ⟨tp, T, xs, dds, rfl, hT, rfl, hd, rds⟩
      · rw [eH]; exact go d H' G' hd c' (.inl rd)
      · obtain ⟨c2, x2⟩ := c'.shared (u := .tup xs) hT
        exact go (.tup dds) _ _ hd c2 (.inr ⟨tp, dds, T, xs, rfl, rfl, .inl (.inl upd_same), RVs.mono x2 _ _ rds⟩)
    · have e : i = l.length := by omega
      subst e
      rw [List.drop_length] at e'
      exact .inl ⟨wk.stops _ _ _ _ _ _ c' c'.stp.grow rfl (fun _ z => nomatch z), ρ', G', own', e'.symm, c1.comp c'⟩
  obtain ⟨wi, pi, wq⟩ := h o σ H G own ρ Fl (mForI mi g body ρ) _ c (R.bind_nb nb) Xle.bind key
  exact ⟨_, ps_for (X := Cx.to X o _) hp hc pi p1 pss_w hfs, wq⟩
end
end DL

set_option maxRecDepth 100000
set_option maxHeartbeats 2000000
namespace DL
open PySem PySem.Spec L2
open PyProof.Rows hiding St

/-! ### slices -/
def cutD {α : Type} (l : List α) (lo hi : Option Int) : List α := (l.drop (HT.sIx l.length 0 lo)).take (HT.sIx l.length l.length hi - HT.sIx l.length 0 lo)
theorem cut_rv {K : PySem.W.Frag} {G : Hp} {l : List D} {xs : List V} {lo hi : Option Int} (h : RVs K G l xs) : RVs K G (cutD l lo hi) (cutV xs lo hi) := by
  unfold cutD cutV
  rw [h.length]
  exact (h.drop _).take _
theorem cut_all {α : Type} {l : List α} {lo hi : Option Int} (h : HT.sIx l.length 0 lo = 0 ∧ HT.sIx l.length l.length hi = l.length) : cutD l lo hi = l := by
  unfold cutD
  rw [h.1, h.2]
  simp
def slD (d : D) (lo hi : Option Int) : Option D := match d with
  | .tup l => some (.tup (cutD l lo hi))
  | .lst l => some (.lst (cutD l lo hi))
  | _ => none
def anyS (Y : Cx) : V → Option Int → Option Int → Hp → VK → Prop := fun x lo hi H Q => ∃ r, SlR Y r ∧ r x lo hi H Q
theorem sl_any {Y : Cx} : SlR Y (anyS Y) := fun pins s σ H x v vl vu lo hi sl Q I rx hs pl pu ⟨r, hr, q⟩ => hr pins s σ H x v vl vu lo hi sl Q I rx hs pl pu q
theorem sl_widen {Y : Cx} {r : V → Option Int → Option Int → Hp → VK → Prop} {x : V} {lo hi : Option Int} {H : Hp} {Q Q' : VK} (hr : SlR Y r) (h : r x lo hi H Q) (k : ∀ z H', Q z H' → Q' z H') : anyS Y x lo hi H Q' :=
  ⟨fun x lo hi H Q => ∃ Q', r x lo hi H Q' ∧ ∀ z H', Q' z H' → Q z H', fun pins s σ H x v vl vu lo hi sl Q I rx hs pl pu ⟨Q', h1, h2⟩ => by
    obtain ⟨T, id, k1, k2, k3⟩ := hr pins s σ H x v vl vu lo hi sl Q' I rx hs pl pu h1
    exact ⟨T, id, k1, k2, thn k3 fun _ _ ⟨z, H', I', r', q'⟩ => ⟨z, H', I', r', h2 _ _ q'⟩⟩, Q, h, k⟩
section
variable {X : Cx} {o : Orig} {σ : L2.St} {H G : Hp} {own : Own} {ρ : Env} {np : Nat}
variable {e a b ie tst elt tg it : Expr} {es : List Expr} {m : MO} {me ma mb : ME} {mt : MT} {mas : MA} {mar : Env → R (List Ar)} {pos pos' pos'' p p2 apos : Pos} {x mn : Str} {q qi : Env → Option C}
theorem slice_at {d d' : D} {v : V} {lo hi : Option Int} {E : Value → Shared → Prop} {Q : VK} (c : Cfg X.K o σ H G own ρ) (rv : RV X.K G d v) (h : slD d lo hi = some d') (k : ∀ z H', OkD X.K o σ ρ G d' z H' → Q z H') : anyS (X.wish E) v lo hi H Q := by
  unfold slD at h
  split at h
  · rename_i l
    cases h
    obtain ⟨ad, xs, rfl, h1, h2⟩ := rv.tup_inv
    refine sl_widen (sl_tupP (X := X.wish E)) ⟨ad, xs, rfl, c.good.tup h1, fun hw => ?_, fun _ p ob hp ho => okd_tup c (cut_rv h2) hp ho⟩ k
    rw [← h2.length] at hw
    have e1 := cut_all hw
    show OkD X.K o σ ρ G (.tup (cutD l lo hi)) _ H
    rw [e1]
    exact okd_pure c rv
  · rename_i l
    cases h
    obtain ⟨ad, xs, rfl, h1, h2⟩ := rv.lst_inv
    exact sl_widen (sl_list (X := X.wish E)) ⟨ad, xs, rfl, c.good.lst h1, fun p hp => okd_lst c (cut_rv h2) hp⟩ k
  · cases h
def mSlL (me ml : ME) : ME := fun ρ => (me ρ).bind fun d ρ1 => (ml ρ1).bind fun i ρ2 => match i with
  | .int n => opt (slD d (some n) none) ρ2
  | _ => .bad
def mSlH (me ml : ME) : ME := fun ρ => (me ρ).bind fun d ρ1 => (ml ρ1).bind fun i ρ2 => match i with
  | .int n => opt (slD d none (some n)) ρ2
  | _ => .bad
theorem se_slL (ha : SE X a ma) (hb : SE X b mb) : SE X (.Subscript a (.Slice (some b) none none p2) pos) (mSlL ma mb) :=
  ET.se (tf := fun Y => tSl (anyS Y) (wE Y a) (tPart (wE Y b)) tNoPart) (fun o σ H G own ρ α r Q c nb hx k => use2 ha hb rfl c nb hx fun d1 d2 ρ2 v1 v2 H2 G2 own2 nb2 e c2 x r1 r2 => by
    cases d2 with
    | int n =>
      dsimp only at nb2 e
      obtain ⟨d, e1, e2⟩ := opt_nb nb2
      obtain rfl := r2.int_inv
      exact ⟨n, rfl, slice_at c2 r1 e1 fun z H' ⟨G', own', c', x', rv⟩ => k d ρ2 z H' G' own' (e.trans e2) c' (x.trans x') rv⟩
    | _ => exact absurd rfl nb2) fun _ => pe_slice sl_any pe_w (po_some pe_w) po_none
theorem se_slH (ha : SE X a ma) (hb : SE X b mb) : SE X (.Subscript a (.Slice none (some b) none p2) pos) (mSlH ma mb) :=
  ET.se (tf := fun Y => tSl (anyS Y) (wE Y a) tNoPart (tPart (wE Y b))) (fun o σ H G own ρ α r Q c nb hx k => use2 ha hb rfl c nb hx fun d1 d2 ρ2 v1 v2 H2 G2 own2 nb2 e c2 x r1 r2 => by
    cases d2 with
    | int n =>
      dsimp only at nb2 e
      obtain ⟨d, e1, e2⟩ := opt_nb nb2
      obtain rfl := r2.int_inv
      exact ⟨n, rfl, slice_at c2 r1 e1 fun z H' ⟨G', own', c', x', rv⟩ => k d ρ2 z H' G' own' (e.trans e2) c' (x.trans x') rv⟩
    | _ => exact absurd rfl nb2) fun _ => pe_slice sl_any pe_w po_none (po_some pe_w)

/-! ### a staticmethod of a class -/
structure Stm (K : PySem.W.Frag) (C f : Addr) (m : Str) : Prop where
  ga : PySem.W.specialIn K (.ref C) "__getattribute__" = some (some (.builtin "type.__getattribute__"))
  at_ : ∃ mc p rest, PySem.W.readsIn K C mc = true ∧ PySem.W.findCls K (.ref C) mc m = some (.get (.builtin "staticmethod.__get__") (.ref p) .none (.ref C)) ∧ PySem.W.recIn K p "staticmethod" = some (.ref f :: rest)
  kp : PySem.W.keepIn K (.ref f) = true
structure Sm (P : Program) (w : World) (K : PySem.W.Frag) (mg : Str → Option Value) (base : Heap) (k : Nat) (x : Str) (m : Str) (np : Nat) (den : Den) : Prop where
  fn : ∃ C f fd ps, FnOk P w K mg base (L2.CX P w) k f fd ps (spD K np den) ∧ mg x = some (.ref C) ∧ Stm K C f m ∧ Binds K fd ps []
theorem pe_static {CX : CXT} {C f : Addr} {k : Nat} {fd : FuncData} {ps : List Str} {sp : Sp} {E : L2.St → XK} {t : TA} {pl : Sem Bool} (S : Stm X.K C f mn) (F : FnOk X.prog X.w X.K X.mg X.base CX k f fd ps sp) (hr : Room k X.A) (hg : Gl X x) (hm : X.mg x = some (.ref C)) (hb : Binds X.K fd ps []) (hx : ∀ σ, PassesAt CX X σ (E σ)) (ha : PA X (e :: es) t)
    (hdb : (x == ("__debug__" : Str)) = false := by decide) (hst : starEach (e :: es) X.env = (false, eval e X.env) :: starEach es X.env := by rfl) (hpl : (backTo pos (starEach es X.env)).any (·.1) = false := by rfl)
    (ht : eval (.Call (.Attribute (.Name x p) mn apos) (e :: es) [] pos) X.env = (do
      let ov ← eval (.Name x p) X.env
      standAt apos.atName
      let (f, first) ← holding [ov] (getMethod ov mn pl)
      callWith pos f first (backTo pos (starEach (e :: es) X.env)) (backToKw pos (keywordEach [] X.env))) := by rfl) :
    PE X (.Call (.Attribute (.Name x p) mn apos) (e :: es) [] pos) (tCallS sp E t) := by
  refine ⟨fun pins s σ H Q I h => ?_⟩
  refine PySem.W.methodCall_KW (pl := pl) (ld_glob I hg hm ?_ hdb) ht
  obtain ⟨mc, pp, rest, h1, h2, h3⟩ := S.at_
  refine PySem.W.method_cls I.kIn S.ga (PySem.W.cls_bind I.kIn h1 h2 ?_)
  refine wpAny_call (PySem.W.sm_get (s := { s with toks := s.toks + 1 }) I.kIn h3 (PySem.W.handed_on rfl ?_))
  have I1 : Inv X pins σ H { s with toks := s.toks + 1 } := I.tok _
  exact PySem.W.callWith_K (first := []) (h₀ := X.base) I.ok.mod.kin S.kp (thn (ha.run pos pins _ σ H _ I1 h) fun us s2 ⟨vs, H2, I2, r, q2⟩ => ⟨I2.kIn, run_fnS F hr hb (hx σ) I2 r q2⟩) hst hpl
theorem so_static {k j np : Nat} {den : Den} {pl : Sem Bool} (F : Sm X.prog X.w X.K X.mg X.base k x mn np den) (hr : Room j X.A) (hk : k ≤ j) (hg : Gl X x) (ha : SAr X (e :: es) mar) (hdb : (x == ("__debug__" : Str)) = false := by decide)
    (he : starEach (e :: es) X.env = (false, eval e X.env) :: starEach es X.env := by rfl) (hpl : (backTo pos (starEach es X.env)).any (·.1) = false := by rfl)
    (ht : eval (.Call (.Attribute (.Name x p) mn apos) (e :: es) [] pos) X.env = (do
      let ov ← eval (.Name x p) X.env
      standAt apos.atName
      let (f, first) ← holding [ov] (getMethod ov mn pl)
      callWith pos f first (backTo pos (starEach (e :: es) X.env)) (backToKw pos (keywordEach [] X.env))) := by rfl) : SO X (.Call (.Attribute (.Name x p) mn apos) (e :: es) [] pos) (mCall np den mar) := by
  obtain ⟨C, f, fd, ps, F1, hm, S, hb⟩ := F.fn
  refine SO.of fun o σ H G own ρ c nb => ⟨_, pe_static (X := Cx.to X o _) S F1 (hr.mono hk) hg hm hb pass_to pa_w hdb he hpl ht, ?_⟩
  refine ha o σ H G own ρ _ _ _ c (R.bind_nb nb) Xle.bind fun l ρ1 vs H1 G1 own1 e1 c1 x1 r1 => ?_
  unfold mCall at nb ⊢
  rw [e1, R.bind_ok] at nb ⊢
  by_cases hn : l.length = np
  · rw [if_pos hn] at nb ⊢
    exact sp_call c1 (r1 .non) hn nb (fun c' ρ' v H' G' own' e2 c2 x2 rc => ⟨c', ρ', G', own', e2, c2, x1.trans x2, rc⟩) fun cls d H' w => w
  · rw [if_neg hn] at nb; exact absurd rfl nb

/-! ### dict of a list of pairs -/
def pairsD : List D → Option (List (Key × D))
  | [] => some []
  | .tup [k, v] :: r => match keyD k, pairsD r with
    | some kk, some l => some ((kk, v) :: l)
    | _, _ => none
  | _ => none
def mergeD : List (Key × D) → List Key × List D → List Key × List D
  | [], acc => acc
  | (k, d) :: r, acc => mergeD r (putD acc.1 acc.2 k d)
def dictD : D → Option D
  | .lst l => (pairsD l).map fun kds => .dic (mergeD kds ([], [])).1 (mergeD kds ([], [])).2
  | _ => none
theorem merge_rv {K : PySem.W.Frag} {G : Hp} : ∀ {kds : List (Key × D)} {kvs : List (Key × V)} {acc : List (Key × V)} {vs : List D}, Paired (fun (p : Key × D) (q : Key × V) => p.1 = q.1 ∧ RV K G p.2 q.2) kds kvs → RVs K G vs (acc.map (·.2)) →
    (mergeK acc kvs).map (·.1) = (mergeD kds (acc.map (·.1), vs)).1 ∧ RVs K G (mergeD kds (acc.map (·.1), vs)).2 ((mergeK acc kvs).map (·.2))
  | [], _, acc, vs, h, hv => by cases h; exact ⟨rfl, hv⟩
  | (k, d) :: r, _, acc, vs, h, hv => by
    cases h with
    | @cons _ q _ kvs h1 h2 =>
      obtain ⟨qk, qv⟩ := q
      obtain ⟨e1, e2⟩ := h1
      dsimp only at e1 e2
      subst e1
      obtain ⟨p1, p2⟩ := putK_rv (k := k) e2 hv
      have ih := merge_rv (acc := putK acc k qv) h2 p2
      rw [p1] at ih
      exact ih
theorem pairs_rv {K : PySem.W.Frag} {H G : Hp} {own : Own} (g : Good H G own) : ∀ {l : List D} {xs : List V} {kds : List (Key × D)}, RVs K G l xs → pairsD l = some kds →
    ∃ (ps : List Addr) (kvs : List (Key × V)), xs = ps.map V.ref ∧ Paired (fun p kv => SqT K H p [kV kv.1, kv.2]) ps kvs ∧ Paired (fun (p : Key × D) (q : Key × V) => p.1 = q.1 ∧ RV K G p.2 q.2) kds kvs
  | [], xs, kds, h, e => by
    simp only [pairsD] at e
    cases e
    exact ⟨[], [], h.inv_nil, .nil, .nil⟩
  | d :: l, xs, kds, h, e => by
    obtain ⟨x, r, rfl, h1, h2⟩ := h.inv_cons
    unfold pairsD at e
    split at e
    · rename_i heq
      cases heq
    · rename_i k v r' heq
      cases heq
      split at e
      · rename_i kk l' e1 e2
        cases e
        obtain ⟨ps, kvs, e3, p1, p2⟩ := pairs_rv g h2 e2
        obtain ⟨ad, ys, rfl, h3, h4⟩ := h1.tup_inv
        obtain ⟨w, z, rfl, h5, h6⟩ := h4.two
        obtain rfl := keyD_rv h5 e1
        exact ⟨ad :: ps, (kk, z) :: kvs, by rw [e3]; rfl, .cons (g.tup h3) p1, .cons ⟨rfl, h6⟩ p2⟩
      · cases e
    · cases e
theorem ct_dict (hc : X.calm = true) : CallT X (.type "dict") dictD := by
  intro E o σ H G own ρ dx d v c hx h
  unfold dictD at h
  split at h
  · rename_i l
    obtain ⟨kds, e1, e2⟩ := Option.map_eq_some_iff.mp h
    subst e2
    obtain ⟨a, xs, rfl, h1, h2⟩ := hx
    obtain ⟨ps, kvs, e3, p1, p2⟩ := pairs_rv c.good h2 e1
    subst e3
    refine ⟨_, call_dictP (X := X.wish E) hc, a, ps, kvs, rfl, .inl h1, p1, fun p hp => okd_new c hp ?_⟩
    obtain ⟨m1, m2⟩ := merge_rv (acc := []) p2 .nil
    show RV X.K _ (.dic _ _) _
    unfold RV
    exact ⟨p, _, rfl, upd_same, m1, RVs.mono (Ext.upd (c.good.gnone hp)) _ _ m2⟩
  · cases h
/-! ### a comprehension over the keys of a dict that is shared -/
theorem Cfg.locked {K : PySem.W.Frag} {a : Addr} {od : Obj} {kvs : List (Key × V)} (c : Cfg K o σ H G own ρ) (ga : G a = some (.dK kvs)) (ha : H a = some (.dK kvs)) : Cfg K ⟨upd H a (.frz od (.dK kvs)), G, own, []⟩ σ (upd H a (.frz od (.dK kvs))) G own ρ := by
  have oa : own a = none := c.good.sep a (by rw [ga]; simp)
  refine ⟨fun i c' h => ?_, ⟨fun b w h => ?_, fun b ub hub h => ?_, c.good.sep, fun b h => ?_⟩, Stp.refl, fun j v e => by simp at e⟩
  · obtain ⟨v, k1, k2⟩ := c.er i c' h
    refine ⟨v, k1, k2.move (fun b t w g3 g4 => ⟨?_, g3⟩) Ext.rfl'⟩
    rw [upd_ne (fun z => by subst z; rw [oa] at g3; cases g3)]; exact g4
  · by_cases hb : b = a
    · subst hb
      rw [ga] at h; cases h
      exact .inr ⟨od, upd_same⟩
    · exact rd_keep (c.good.rd b w h) fun w' h' => by rw [upd_ne hb]; exact h'
  · by_cases hb : b = a
    · subst hb; rw [ga] at h; cases h; cases hub
    · rw [upd_ne hb]; exact c.good.rdi b ub hub h
  · by_cases hb : b = a
    · subst hb; exact absurd oa h
    · rw [upd_ne hb]; exact c.good.live b h
theorem Cfg.unlocked {K : PySem.W.Frag} {a : Addr} {od : Obj} {kvs : List (Key × V)} {H' G' : Hp} {own' : Own} {ρ' : Env} (c : Cfg K o σ H G own ρ) (ga : G a = some (.dK kvs)) (ha : H a = some (.dK kvs))
    (c' : Cfg K ⟨upd H a (.frz od (.dK kvs)), G, own, []⟩ σ H' G' own' ρ') : Cfg K o σ (upd H' a (.dK kvs)) G' own' ρ' := by
  have oa : own a = none := c.good.sep a (by rw [ga]; simp)
  have ga' : G' a = some (.dK kvs) := c'.stp.grow _ _ ga
  have oa' : own' a = none := c'.good.sep a (by rw [ga']; simp)
  refine ⟨fun i c1 h => ?_, ⟨fun b w h => ?_, fun b ub hub h => ?_, c'.good.sep, fun b h => ?_⟩, c.stp.trans ⟨fun b w h n => ?_, c'.stp.grow, fun b h => ?_, fun b h => ?_, fun b h => ?_⟩, c.pins⟩
  · obtain ⟨v, k1, k2⟩ := c'.er i c1 h
    refine ⟨v, k1, k2.move (fun b t w g3 g4 => ⟨?_, g3⟩) Ext.rfl'⟩
    rw [upd_ne (fun z => by subst z; rw [oa'] at g3; cases g3)]; exact g4
  · by_cases hb : b = a
    · subst hb
      rw [ga'] at h; cases h
      exact .inl upd_same
    · exact rd_keep (c'.good.rd b w h) fun w' h' => by rw [upd_ne hb]; exact h'
  · by_cases hb : b = a
    · subst hb; rw [ga'] at h; cases h; cases hub
    · rw [upd_ne hb]; exact c'.good.rdi b ub hub h
  · by_cases hb : b = a
    · subst hb; exact absurd oa' h
    · rw [upd_ne hb]; exact c'.good.live b h
  · by_cases hb : b = a
    · subst hb; rw [upd_same, ← ha]; exact h
    · rw [upd_ne hb]
      exact c'.stp.keep b w (by show upd H a _ b = _; rw [upd_ne hb]; exact h) n
  · rcases c'.stp.orig b h with q | q
    · exact .inl q
    · by_cases hb : b = a
      · subst hb; exact absurd oa' h
      · have q' : upd H a (.frz od (.dK kvs)) b = none := q
        rw [upd_ne hb] at q'; exact .inr q'
  · rcases c'.stp.origG b h with q | q | q
    · exact .inl q
    · exact .inr (.inl q)
    · by_cases hb : b = a
      · subst hb; exact .inl (by rw [ga]; simp)
      · have q' : upd H a (.frz od (.dK kvs)) b = none := q
        rw [upd_ne hb] at q'; exact .inr (.inr q')
  · by_cases hb : b = a
    · rw [hb, upd_same]; simp
    · rw [upd_ne hb]
      exact c'.stp.there b (by show upd H a _ b ≠ _; rw [upd_ne hb]; exact h)
/-- the keys of x.f, x a slot's shared instance -/
def iFld (cl : List Addr) (i : Nat) (f : Str) : Env → R (List D) := fun ρ => match (qVar i ρ).bind (attrC cl f) with
  | some (.v (.dic ks _)) => .ok (ks.map kD) ρ
  | _ => .bad
/-- (the slot's content is a shared value) -/
def shSlot (i : Nat) (ρ : Env) : Bool := match qVar i ρ with
  | some (.v _) => true
  | _ => false
def mCompK (cl : List Addr) (i : Nat) (f : Str) (g : MG) (t : MT) (el : ME) (vs : List Nat) : MO := fun ρ => if shSlot i ρ = true then mComp (iFld cl i f) none g t el vs ρ else .bad
theorem kDs_get {kvs : List (Key × V)} {i : Nat} {k : Key} {v : V} (h : kvs[i]? = some (k, v)) : ((kvs.map (·.1)).map kD)[i]? = some (kD k) := by
  rw [List.getElem?_map, List.getElem?_map, h]; rfl
theorem wk_keys {tp : Bool} {K : PySem.W.Frag} {a : Addr} {od : Obj} {kvs : List (Key × V)} {H1 G1 : Hp} {own1 : Own} {v0 : V} (ha : H1 a = some (.frz od (.dK kvs))) (oa : own1 a = none) : Wk tp K (Itk a od kvs) ((kvs.map (·.1)).map kD) H1 G1 own1 none v0 := by
  have w := walk_keys (d := a) (o := od) (kvs := kvs)
  have hl : ((kvs.map (·.1)).map kD).length = kvs.length := by simp
  refine ⟨fun i vs0 σ H G own ρ hi c x _ _ => w.goes i H (by rw [← hl]; exact hi) (c.stp.keep a _ ha oa), fun vs0 σ H G own ρ c x _ _ => by rw [hl]; exact w.stops H (c.stp.keep a _ ha oa), fun i x H' vs0 σ H G own ρ hi c x' _ _ y => ?_⟩
  obtain ⟨e1, k, v, e2, e3⟩ := w.yields i H x H' (by rw [← hl]; exact hi) (c.stp.keep a _ ha oa) y
  exact .inl ⟨e1, kD k, kDs_get e2, by rw [e3]; exact kD_rv⟩
theorem so_compK {scope : Scope} {ow : List (Str × Nat)} {g : MG} {ifs : List Expr} {cl : List Addr} {i : Nat} {f : Str} (hc : X.calm = true) (hN : X.N.Nodup) (hC : ∀ C ∈ cl, L2.Cls X.K C ∧ L2.NoAttr X.K C f) (hi : X.N[i]? = some x) (hvis : Vis X.env.scope x) (ok : BlkOk X.N X.env.scope scope ow)
    (hg : ∀ (s : Shared) (H : Hp) (C : Addr) (cl : List (Str × Addr)) (fp : List Addr), SW (X.blk s H scope (compEnvC scope cl C X.env) fp) (ow.map (·.2)) tg g)
    (ht : ∀ (s : Shared) (H : Hp) (C : Addr) (cl : List (Str × Addr)) (fp : List Addr), SF (X.blk s H scope (compEnvC scope cl C X.env) fp) ifs mt)
    (he : ∀ (s : Shared) (H : Hp) (C : Addr) (cl : List (Str × Addr)) (fp : List Addr), SE (X.blk s H scope (compEnvC scope cl C X.env) fp) elt me)
    (hs : ∀ z, foldedSetIterable (.Attribute (.Name x pos') f apos) X.env z = pure z := by intro _; rfl) (hb : attributeBase (.Name x pos') f X.env (eval (.Name x pos') X.env) = eval (.Name x pos') X.env := by rfl)
    (hd : (x == ("__debug__" : Str)) = false := by decide) (hcd : (x == ("__classdict__" : Str)) = false := by decide) :
    SO X (.ListComp elt [⟨tg, .Attribute (.Name x pos') f apos, ifs, 0⟩] scope pos) (mCompK cl i f g mt me (ow.map (·.2))) := SO.ofL fun o σ H G own ρ hl c nb => by
  unfold mCompK at nb ⊢
  by_cases hsh : shSlot i ρ = true
  · rw [if_pos hsh] at nb ⊢
    have nbi := R.bind_nb nb
    have hq := SQ.se (sq_attr (cl := cl) (f := f) (pos := apos) (sq_var (X := X) (pos := pos') hi hvis hd hcd) hC hb)
    -- the dict's place
    have place : ∃ cA ns vs0 b dx fs v ks l a kvs, qVar i ρ = some (.v (.ins cA ns vs0)) ∧ cA ∈ cl ∧ σ[i]? = some (some (.ref b)) ∧ G b = some (.ins cA dx fs) ∧ fs.lookup f = some v ∧ (qVar i ρ).bind (attrC cl f) = some (.v (.dic ks l)) ∧ v = .ref a ∧ G a = some (.dK kvs) ∧ kvs.map (·.1) = ks := by
      unfold iFld at nbi
      cases e1 : (qVar i ρ).bind (attrC cl f) with
      | none => rw [e1] at nbi; exact absurd rfl nbi
      | some cc =>
        rw [e1] at nbi
        obtain ⟨c0, e2, e3⟩ := Option.bind_eq_some_iff.mp e1
        unfold shSlot at hsh
        rw [e2] at hsh
        cases c0 with
        | v d0 =>
          cases d0 with
          | ins cA ns vs0 =>
            simp only [attrC] at e3
            split at e3
            · rename_i hcl
              obtain ⟨d1, e4, e5⟩ := Option.map_eq_some_iff.mp e3
              subst e5
              cases d1 with
              | dic ks l =>
                obtain ⟨v, k1, k2⟩ := c.er i _ (qVar_some e2)
                obtain ⟨b, dx, fs, rfl, h2, h3, h4, h5⟩ := RV.ins_inv (K := X.K) (G := G) k2
                subst h4
                obtain ⟨w, h6, h7⟩ := RVs.lookup h5 e4
                obtain ⟨a, kvs, e6, h8, h9, _⟩ := h7.dic_inv
                exact ⟨cA, _, vs0, b, dx, fs, w, ks, l, a, kvs, e2, hcl, k1, h2, h6, rfl, e6, h8, h9⟩
              | _ => exact absurd rfl nbi
            · cases e3
          | _ => cases e3
        | _ => cases hsh
    obtain ⟨cA, ns, vs0, b, dx, fs, v, ks, l, a, kvs, e1, hcl, k1, h2, h6, e2, rfl, ga, hks⟩ := place
    have eI : ∀ ρ', iFld cl i f ρ = .ok (ks.map kD) ρ' → ρ' = ρ := fun ρ' z => by unfold iFld at z; rw [e2] at z; cases z; rfl
    have eI0 : iFld cl i f ρ = .ok (ks.map kD) ρ := by unfold iFld; rw [e2]
    have nab : b ≠ a := fun z => by rw [z, ga] at h2; cases h2
    have oa : own a = none := c.good.sep a (by rw [ga]; simp)
    -- the keys are walked where the dict is locked
    have walkAt : ∀ (o' : Orig) (H' : Hp) (od : Obj), Cfg X.K o' σ H' G own ρ → H' b = some (.ins cA dx fs) → H' a = some (.frz od (.dK kvs)) → ∀ (E : Value → Shared → Prop) (RR : It → Hp → Prop), (∀ l ρ1 H1 G1 own1 J v0, iFld cl i f ρ = .ok l ρ1 → Cfg X.K o' σ H1 G1 own1 ρ1 → Ext G G1 → Wk (isTup tg) X.K J l H1 G1 own1 none v0 → (∀ k : Nat, none = some k → σ[k]? = some (some v0)) → RR J H1) →
        ∃ wi, PI (X.wish E) tg (.Attribute (.Name x pos') f apos) wi ∧ wi σ H' RR := fun o' H' od c' hb' ha' E RR k => by
      refine ⟨_, pi_keys (X := X.wish E) (pe_fld (X := X.wish E) (pe_var (X := X.wish E) hi hvis hd hcd) hb), ?_⟩
      refine ⟨.ref b, k1, b, cA, dx, fs, .ref a, rfl, hb', (hC cA hcl).1, (hC cA hcl).2, h6, a, od, rfl, .inl ⟨kvs, ha', ?_⟩⟩
      have w := wk_keys (tp := isTup tg) (K := X.K) (G1 := G) (v0 := .non) ha' oa
      rw [hks] at w
      exact k _ ρ H' G own _ .non eI0 c' Ext.rfl' w fun _ z => nomatch z
    have hb0 := c.good.rdi _ _ (.ins _ _ _) h2
    rcases c.good.rd _ _ ga with ha | ⟨od, ha⟩
    · -- not locked yet
      have core : ∀ od : Obj, ∃ t, PE (Cx.to X o (mComp (iFld cl i f) none g mt me (ow.map (·.2)) ρ)) (.ListComp elt [⟨tg, .Attribute (.Name x pos') f apos, ifs, 0⟩] scope pos) t ∧ t σ (upd H a (.frz od (.dK kvs))) (OkO X.K ⟨upd H a (.frz od (.dK kvs)), G, own, []⟩ σ G (mComp (iFld cl i f) none g mt me (ow.map (·.2)) ρ)) := fun od => by
        have cl' := c.locked (od := od) ga ha
        exact comp_core (E := XE X (WO X.K o (mComp (iFld cl i f) none g mt me (ow.map (·.2)) ρ))) hc hN ok hg ht he hs hl cl' nb fun RR k => walkAt _ _ od cl' (by rw [upd_ne nab]; exact hb0) upd_same _ RR k
      refine ⟨_, pe_lock pe_w, a, .dK kvs, ha, trivial, fun od => ?_⟩
      obtain ⟨t, p1, q1⟩ := core od
      refine .sh fun pins s I => ?_
      refine wpAny_mono (p1.run pins s σ _ _ I q1) (fun u s' ⟨v, H', I', r', q'⟩ => ⟨v, H', I', r', ?_, ?_⟩) fun _ _ y => y
      · obtain ⟨c2, ρ', G', own', e3, c', x', r''⟩ := q'
        exact c'.stp.keep a _ upd_same oa
      · obtain ⟨c2, ρ', G', own', e3, c', x', r''⟩ := q'
        have ga' : G' a = some (.dK kvs) := x' _ _ ga
        have oa' : own' a = none := c'.good.sep a (by rw [ga']; simp)
        refine ⟨c2, ρ', G', own', e3, c.unlocked ga ha c', x', r''.move (fun b' t' w g3 g4 => ⟨?_, g3⟩) Ext.rfl'⟩
        rw [upd_ne (fun z => by subst z; rw [oa'] at g3; cases g3)]; exact g4
    · obtain ⟨t, p1, q1⟩ := comp_core (E := XE X (WO X.K o (mComp (iFld cl i f) none g mt me (ow.map (·.2)) ρ))) hc hN ok hg ht he hs hl c nb fun RR k => walkAt o H od c hb0 ha _ RR k
      exact ⟨t, p1, q1⟩
  · rw [if_neg hsh] at nb; exact absurd rfl nb
end
end DL

set_option maxRecDepth 100000
set_option maxHeartbeats 1000000
/-! try with clauses, by data -/
namespace DL
open PySem PySem.Spec L2
open PyProof.Rows hiding St
abbrev MH := Addr → List (Str × D) → MS
def pick (K : PySem.W.Frag) (i : Nat) (c : Addr) (fs : List (Str × D)) (ρ : Env) : List (Addr × MH) → R Fl
  | [] => .exc c fs ρ
  | (k, m) :: r => match PySem.W.exmOne K (.ref c) (.ref k) with
    | some true => m c fs (ρ.set i none)
    | some false => pick K i c fs ρ r
    | none => .bad
def mTry (K : PySem.W.Frag) (i : Nat) (mb : MS) (hs : List (Addr × MH)) : MS := fun ρ => match mb ρ with
  | .exc c fs ρ1 => pick K i c fs ρ1 hs
  | r => r
/-- a clause's suite, by data: slot i names the exception at a -/
def HC (X : Cx) (np i : Nat) (suite : List Stmt) (mh : MH) : Prop :=
  ∀ a oe cls d pn, Zc cls d oe → (∃ vs, oe.data = .fields vs) → ∀ o σ H G own ρ c fs dd vf, o.vs.length = np → cls = .ref c → d = some dd → H dd = some (.xd vf) → XF X.K G fs vf → own dd = none → G dd = none → H a = none →
    σ[i]? = some (some (.ref a)) → Cfg X.K o σ H G own ρ → mh c fs ρ ≠ .bad → wSs (X.suite a ((a, oe) :: pn)) suite (gone i (En X.K o (mh c fs ρ))) σ H
theorem Cfg.nameset {K : PySem.W.Frag} {o : Orig} {σ : St} {H G : Hp} {own : Own} {ρ : Env} {i : Nat} (c : Cfg K o σ H G own ρ) (hi : o.vs.length ≤ i) (w : Option V) : Cfg K o (σ.set i w) H G own (ρ.set i none) := by
  refine ⟨fun j c' e => ?_, c.good, c.stp, fun j v e => ?_⟩
  · by_cases hj : j = i
    · subst hj
      rw [List.getElem?_set] at e
      simp only [if_true] at e
      split at e <;> cases e
    · rw [List.getElem?_set_ne (Ne.symm hj)] at e ⊢
      exact c.er j c' e
  · have hj : j < o.vs.length := by
      by_cases z : j < o.vs.length
      · exact z
      · rw [List.getElem?_eq_none (by omega)] at e; cases e
    rw [List.getElem?_set_ne (by omega)]
    exact c.pins j v e
/-- the clauses as written, and their data -/
inductive Hds (X : Cx) (np i : Nat) (n : Str) : List ExceptHandler → List (Addr × MH) → Prop
  | nil : Hds X np i n [] []
  | cons {x : Str} {k : Addr} {m : MH} {st : Stmt} {sts : List Stmt} {p1 p2 : Pos} {hds : List ExceptHandler} {l : List (Addr × MH)} (nm : Names X x (.ref k)) (h : HC X np i (st :: sts) m) (tl : Hds X np i n hds l) :
      Hds X np i n (.ExceptHandler (some (.Name x p1)) (some n) (st :: sts) p2 :: hds) ((k, m) :: l)
/-- the clauses with what each wishes -/
inductive Cls2 (X : Cx) (np i : Nat) : List (Addr × MH) → List Cl → Prop
  | nil : Cls2 X np i [] []
  | cons {k : Addr} {m : MH} {st : Stmt} {sts : List Stmt} {l : List (Addr × MH)} {l2 : List Cl} (h : HC X np i (st :: sts) m) (tl : Cls2 X np i l l2) :
      Cls2 X np i ((k, m) :: l) ((.ref k, fun a cls d D σ H => ∀ oe pn, Zc cls d oe → (∃ vs, oe.data = .fields vs) → wSs (X.suite a ((a, oe) :: pn)) (st :: sts) D σ H) :: l2)
theorem Hds.both {X : Cx} {np i : Nat} {n : Str} {hds : List ExceptHandler} {l : List (Addr × MH)} (h : Hds X np i n hds l) : ∃ l2, Cls2 X np i l l2 ∧ ∀ E, Cls (X.wish E) n hds l2 := by
  induction h with
  | nil => exact ⟨[], .nil, fun _ => .nil⟩
  | cons nm h tl ih =>
    obtain ⟨l2, c2, k⟩ := ih
    exact ⟨_, .cons h c2, fun E => .cons nm (fun a oe cls d pn z f => ⟨fun pins s σ H D I q => q oe pn z f pins s I⟩) (k E)⟩
theorem pick_ok {X : Cx} {np i : Nat} {o : Orig} {c dd : Addr} {fs : List (Str × D)} {vf : List (Str × V)} {σ : St} {H G : Hp} {own : Own} {ρ : Env} {r : R Fl} (hn : o.vs.length = np) (hi : np ≤ i) (hl : i < σ.length) (hd : H dd = some (.xd vf)) (xf : XF X.K G fs vf)
    (ho : own dd = none) (hg : G dd = none) (hoo : o.H dd = none) (cf : Cfg X.K o σ H G own ρ) :
    ∀ {l : List (Addr × MH)} {l2 : List Cl}, Cls2 X np i l l2 → pick X.K i c fs ρ l = r → r ≠ .bad → wAll X.K i (WO X.K o r) (En X.K o r) l2 (.ref c) (some dd) σ H := by
  intro l l2 h
  induction h with
  | nil =>
    intro e nb
    exact ⟨c, fs, ρ, e.symm, rfl, dd, vf, G, own, rfl, hd, xf, cf, ho, hg, hoo⟩
  | @cons k m st sts l l2 h tl ih =>
    intro e nb
    unfold pick at e
    cases z : PySem.W.exmOne X.K (.ref c) (.ref k) with
    | none => rw [z] at e; exact absurd e.symm nb
    | some b =>
      rw [z] at e
      refine ⟨b, z, fun hb a ha oe pn zc f => ?_, fun hb => ?_⟩
      · subst hb
        subst e
        exact h a oe _ _ pn zc f o _ H G own _ c fs dd vf hn rfl rfl hd xf ho hg ha (by rw [List.getElem?_set_self hl]) (cf.nameset (by omega) _) nb
      · subst hb
        exact ih e nb
theorem ss_try {X : Cx} {np i : Nat} {n : Str} {body : List Stmt} {hd : ExceptHandler} {hds : List ExceptHandler} {l : List (Addr × MH)} {mb : MS} {pos : Pos} (stk : X.stack = X.env :: X.outer) (frm : X.env.frame = some X.env.locals) (ndp : X.N.Nodup)
    (ix : X.N[i]? = some n) (loc : X.env.kindOf n = some .local) (hi : np ≤ i) (hb : ∀ pn xe, SSs (X.tr pn xe) np body mb) (hh : Hds X np i n (hd :: hds) l) : SS X np (.Try body (hd :: hds) [] [] pos) (mTry X.K i mb l) := by
  obtain ⟨l2, c2, hc⟩ := hh.both
  have hil : i < X.N.length := by
    by_cases z : i < X.N.length
    · exact z
    · rw [List.getElem?_eq_none (by omega)] at ix; cases ix
  refine SS.of fun o σ H G own ρ hn c nb => ⟨_, ps_try_all (X := Cx.to X o _) (i := i) (n := n) (l := l2) (Wout := WO X.K o (mTry X.K i mb l ρ)) (tb := fun W D σ H => ∀ pn xe, Takes (X.tr pn xe) W → wSs (X.tr pn xe) body D σ H) stk frm ndp ix loc
    (fun u s' x => XE.unwish x) (fun W pn xe t _ => ⟨fun pins s σ H D I q => q pn xe t pins s I⟩) (hc _), ?_⟩
  intro pn xe t
  have nb1 : mb ρ ≠ .bad := fun z => nb (by unfold mTry; rw [z])
  have h := hb pn xe o σ H G own ρ hn c nb1
  refine wSs_mono (X := X.tr pn xe) (E' := xe) h (fun σ' H' q => ?_) (fun v H' q => ?_) (fun σ' H' q => ?_) (fun σ' H' q => ?_) fun u s' x => t u s' ?_
  · obtain ⟨ρ', G', own', e, c'⟩ := q
    exact ⟨ρ', G', own', by unfold mTry; rw [e], c'⟩
  · obtain ⟨cc, ρ', σ', G', own', e, c', r⟩ := q
    exact ⟨cc, ρ', σ', G', own', by unfold mTry; rw [e], c', r⟩
  · obtain ⟨ρ', G', own', e, c'⟩ := q
    exact ⟨ρ', G', own', by unfold mTry; rw [e], c'⟩
  · obtain ⟨ρ', G', own', e, c'⟩ := q
    exact ⟨ρ', G', own', by unfold mTry; rw [e], c'⟩
  · obtain ⟨a, B, sI, pins, σ', H', cls, d, rfl, I, nbB, up, sky, na, os, ag, w⟩ := x
    obtain ⟨c1, fs, ρ1, e1, rfl, dd, vf, G1, own1, rfl, hd1, xf, cf, ho, hg, hoo⟩ := w
    have len : σ'.length = X.N.length := I.len
    refine ⟨a, B, sI, pins, σ', H', _, _, rfl, I, nbB, up, sky, na, os, ag, ?_⟩
    refine pick_ok (X := X) hn hi (by omega) hd1 xf ho hg hoo cf c2 ?_ nb
    unfold mTry
    rw [e1]
end DL

set_option maxRecDepth 100000
set_option maxHeartbeats 1000000
/-! the suites of a clause: return (k, e.f), return (k, repr(e.f)) -/
namespace DL
open PySem PySem.Spec L2
open PyProof.Rows hiding St
theorem lookup_rel {K : PySem.W.Frag} {G : Hp} {n : Str} {d : D} : ∀ {fs : List (Str × D)} {vf : List (Str × V)}, XF K G fs vf → fs.lookup n = some d → ∃ v, vf.lookup n = some v ∧ RV K G d v
  | [], _, _, h => by cases h
  | (a, x) :: fs, vf, ⟨h1, h2⟩, h => by
    cases vf with
    | nil => cases h1
    | cons p vf =>
      obtain ⟨b, y⟩ := p
      simp only [List.map_cons, List.cons.injEq] at h1
      obtain ⟨rfl, h1⟩ := h1
      obtain ⟨r1, r2⟩ : RV K G x y ∧ RVs K G (fs.map (·.2)) (vf.map (·.2)) := by
        obtain ⟨x', r', e, q1, q2⟩ := h2
        cases e
        exact ⟨q1, q2⟩
      rw [lookup_put]
      have h' : (if n = a then some x else fs.lookup n) = some d := by
        by_cases e : n = a
        · subst e; simp [List.lookup] at h; simp [h]
        · have e2 : (n == a) = false := by simpa using e
          simp [List.lookup, e2] at h
          rw [if_neg e]; exact h
      by_cases e : n = a
      · rw [if_pos e] at h' ⊢
        cases h'
        exact ⟨y, rfl, r1⟩
      · rw [if_neg e] at h' ⊢
        exact lookup_rel ⟨h1, r2⟩ h'
section
variable {X : Cx} {o : Orig} {σ : St} {H G : Hp} {own : Own} {ρ : Env} {k n f : Str} {E : Expr} {d : D} {i j np : Nat} {x1 : Nat} {p1 p2 p3 p4 p5 : Pos} {r : R Fl}
theorem ret_pair (he : wE X E σ H (fun v H' => ∃ G' own', Cfg X.K o σ H' G' own' ρ ∧ Ext G G' ∧ RV X.K G' d v)) (hr : r = .ok (.ret (.v (.tup [.str k, d]))) ρ)
    (h1 : starEach [.Constant (.str k) j p1, E] X.env = (false, eval (.Constant (.str k) j p1) X.env) :: starEach [E] X.env := by rfl) (h2 : starEach [E] X.env = (false, eval E X.env) :: starEach [] X.env := by rfl) :
    wSs X [.Return (some (.Tuple [.Constant (.str k) j p1, E] x1 p2)) p3] (gone i (En X.K o r)) σ H := by
  refine .sh fun pins s I => ?_
  refine (pss_one (ps_ret (pe_tupP (pa_cons pe_str (pa_cons (pe_w (Y := X)) pa_nil h2) h1)))).run pins s σ H _ I ?_
  refine .sh fun pins2 s2 I2 => ?_
  refine thn (he.go pins2 s2 I2) fun u s3 ⟨v, H', I3, rv, G', own', c', x', rd⟩ => ⟨v, H', I3, rv, show _ ∧ _ from ⟨by rw [sizeLine_eq]; simp, fun p ob hp ho => ?_⟩⟩
  obtain ⟨G2, own2, c2, x2, rv2⟩ := okd_tup (o := o) (σ := σ) (ρ := ρ) c' (l := [.str k, d]) (xs := [.str k, v]) (.cons (rv_str : RV X.K G' _ _) (.cons rd .nil)) hp ho
  exact ⟨_, ρ, σ, G2, own2, hr, c2, rv2⟩
/-- return (k, e.f) -/
def mTold (K : PySem.W.Frag) (f k : Str) : MH := fun c fs ρ => if xfB K c = true ∧ PySem.W.findIn K (.ref c) f = some none then (match fs.lookup f with
  | some d => .ok (.ret (.v (.tup [.str k, d]))) ρ
  | none => .bad) else .bad
theorem hc_told (hN : X.N[i]? = some n) (hv : Vis X.env.scope n) (hd : (n == ("__debug__" : Str)) = false := by decide) (hcd : (n == ("__classdict__" : Str)) = false := by decide)
    (hb : attributeBase (.Name n p4) f X.env (eval (.Name n p4) X.env) = eval (.Name n p4) X.env := by rfl)
    (h1 : starEach [.Constant (.str k) j p1, .Attribute (.Name n p4) f p5] X.env = (false, eval (.Constant (.str k) j p1) X.env) :: starEach [.Attribute (.Name n p4) f p5] X.env := by rfl)
    (h2 : starEach [.Attribute (.Name n p4) f p5] X.env = (false, eval (.Attribute (.Name n p4) f p5) X.env) :: starEach [] X.env := by rfl) :
    HC X np i [.Return (some (.Tuple [.Constant (.str k) j p1, .Attribute (.Name n p4) f p5] x1 p2)) p3] (mTold X.K f k) := by
  intro a oe cls d pn hz hf o σ H G own ρ c fs dd vf hn ec ed hdd xf ho hg ha hs cf nb
  unfold mTold at nb ⊢
  by_cases hc : xfB X.K c = true ∧ PySem.W.findIn X.K (.ref c) f = some none
  · rw [if_pos hc] at nb ⊢
    cases el : fs.lookup f with
    | none => rw [el] at nb; exact absurd rfl nb
    | some dv =>
      obtain ⟨v, e1, e2⟩ := lookup_rel xf el
      refine ret_pair (X := X.suite a ((a, oe) :: pn)) (G := G) (d := dv) (.sh fun pins s I => ?_) rfl h1 h2
      refine (pe_xf (X := X) (xfB_ok hc.1) hc.2 hz hf (pe_var (X := X.suite a ((a, oe) :: pn)) (i := i) hN hv hd hcd) hb).run pins s σ H _ I ?_
      exact ⟨.ref a, hs, rfl, ec, dd, vf, v, ed, hdd, e1, G, own, cf, Ext.rfl', e2⟩
  · rw [if_neg hc] at nb
    exact absurd rfl nb
end
end DL

set_option maxRecDepth 100000
set_option maxHeartbeats 1000000
/-! == of an instance whose class has its own __eq__ -/
namespace DL
open PySem PySem.Spec L2
open PyProof.Rows hiding St
/-- the own __eq__ of the class at C -/
structure EqC (P : Program) (w : World) (K : PySem.W.Frag) (mg : Str → Option Value) (base : Heap) (k : Nat) (C : Addr) (den : Den) : Prop where
  fn : ∃ f fd ps, FnOk P w K mg base (L2.CX P w) k f fd ps (spD K 2 den) ∧ PySem.W.findIn K (.ref C) "__eq__" = some (some (.ref f)) ∧ PySem.W.isFn K (.ref f) = true ∧ Binds K fd ps []
/-- the second's type is not asked first -/
def nfB (K : PySem.W.Frag) (C : Addr) (d : D) : Bool := match d with
  | .ins c _ _ => PySem.W.notFirst K C (.ref c)
  | .tup _ => PySem.W.notFirst K C (.type "tuple")
  | _ => false
def eqOwn (K : PySem.W.Frag) (C : Addr) (den : Den) : D → D → Option D := fun a b => match a with
  | .ins c _ _ => if c = C ∧ nfB K C b = true then (match den [.v a, .v b] with
    | .ok (.v (.bl r)) _ => some (.bl r)
    | _ => none) else none
  | _ => none
theorem ok2 {a b : D} : okAr [.d a, .d b] = true := rfl
theorem back2 {a b : D} {ρc ρ : Env} : backE [.d a, .d b] ρc ρ = ρ := by
  have h : ∀ i, posn [.d a, .d b] (some i) = none := fun i => by rfl
  unfold backE
  apply List.ext_getElem?
  intro i
  rw [List.getElem?_mapIdx]
  simp [h]
theorem call2 {a b : D} {den : Den} {c : C} {ρc ρ : Env} (h : den [.v a, .v b] = .ok c ρc) : callD den [.d a, .d b] ρ = .ok c ρ := by
  unfold callD
  simp only [arsC, arC, ok2, if_true, h, back2]
section
variable {X : Cx}
theorem looks_data {G : Hp} {pins : List (Addr × Obj)} {σ : L2.St} {H : Hp} {s : Shared} {C : Addr} {d : D} {y : V} {v : Value} (I : Inv X pins σ H s) (g : Good H G own) (rv : RV X.K G d y) (ry : L2.RelV y v) (nf : nfB X.K C d = true) :
    ∃ tb, PySem.W.Looks (model X.prog X.w) s.heap (typeOf v) tb ∧ PySem.W.notFirst X.K C tb = true := by
  cases d with
  | ins c ns l =>
    obtain ⟨a, dx, fs, rfl, h1, h2, h3, h4⟩ := rv
    obtain rfl : v = Value.ref a := ry
    obtain ⟨mA, J, _⟩ := ins_get I.hok (g.rdi _ _ (.ins _ _ _) h1)
    exact ⟨_, (J.look).choose_spec.1.type, nf⟩
  | tup l =>
    obtain ⟨a, xs, rfl, h1, h2⟩ := rv
    obtain rfl : v = Value.ref a := ry
    obtain ⟨its, r, e, z⟩ := I.tuple (g.tup h1)
    obtain ⟨o, ho, hc, _⟩ := e
    exact ⟨.type "tuple", fun A Q E s k q => wpAny_typeOf_ref (k _ _ ho) (by rw [hc]; exact q), nf⟩
  | _ => cases nf
theorem opx_own {k : Nat} {C : Addr} {den : Den} (F : EqC X.prog X.w X.K X.mg X.base k C den) (hr : Room k X.A) : OpX X (compareOp .Eq) (eqOwn X.K C den) := by
  obtain ⟨f, fd, ps, F1, hs, hf, hb⟩ := F.fn
  intro E o σ H G own ρ dx dy d x y c hx hy h
  unfold eqOwn at h
  split at h
  · rename_i cc ns l
    split at h
    · rename_i hc
      obtain ⟨rfl, nf⟩ := hc
      split at h
      · rename_i b ρc e1
        cases h
        have hp : spD X.K 2 den [x, y] H (fun v H' => (∃ b, v = .bl b) ∧ OkD X.K o σ ρ G (.bl b) v H') (fun _ _ _ => False) := by
          refine sp_call (σ := σ) (ρ := ρ) (tv := .non) (l := [.d (.ins cc ns l), .d dy]) c (.cons hx (.cons hy .nil)) rfl ?_ (fun c' ρ' v H' G' own' e c2 x2 rc => ?_) fun cls d H' w => ?_
          · rw [call2 e1]
            simp
          · rw [call2 e1] at e
            cases e
            have q : RV X.K G' (.bl b) v := rc
            have q2 : v = .bl b := q
            subst q2
            exact ⟨⟨b, rfl⟩, G', own', c2, x2, q⟩
          · rw [call2 e1] at w
            obtain ⟨_, _, _, e, _⟩ := w
            cases e
        refine ⟨fun x y H Q => ∃ G own dy, Good H G own ∧ RV X.K G (.ins cc ns l) x ∧ RV X.K G dy y ∧ nfB X.K cc dy = true ∧ spD X.K 2 den [x, y] H (fun v H' => (∃ b, v = .bl b) ∧ Q v H') (fun _ _ _ => False), ?_, G, own, dy, c.good, hx, hy, nf, hp⟩
        intro pins s σ H x y v u Q I rx ry hq
        obtain ⟨G, own, dy, g, hx, hy, nf, sp⟩ := hq
        obtain ⟨tb, LT, nf2⟩ := looks_data I g hy ry nf
        obtain ⟨a, dxa, fs, rfl, h1, h2, h3, h4⟩ := hx
        obtain rfl : v = Value.ref a := rx
        obtain ⟨mA, J, _⟩ := ins_get I.hok (g.rdi _ _ (.ins _ _ _) h1)
        obtain ⟨od, J, _⟩ := J.look
        obtain ⟨m, hF⟩ := I.fr
        have hl := F1.len _ _ _ _ sp
        show wpAny _ _ (richCompare .Eq (.ref a) u) _ _ _
        refine PySem.W.cmp_K (op := .Eq) (tb := tb) (by have := hr.un; show X.A.units < cLine; omega) hF I.ok.mod.kin J LT nf2 hs hf ?_
        refine wpAny_call (codeAny_mono (F1.run X.A X.stack s H ⟨[.ref a, u], []⟩ [.ref a, u] [.ref a, y] _ _ hr I.env0 (by
          have := hb s [.ref a, u] I.kIn (by simpa using hl)
          simpa using this) (.cons rfl (.cons ry .nil)) sp) fun r s' hq => ?_)
        cases r with
        | error e =>
          obtain ⟨_, _, _, _, _, _, _, _, _, _, _, _, q⟩ := hq
          exact q.elim
        | ok fl =>
          cases fl with
          | ret w =>
            obtain ⟨z, H', I', rz, ⟨b, rfl⟩, q⟩ := I.after hq
            cases rz
            exact ⟨.bl b, H', I', rfl, q⟩
          | next => exact False.elim hq
          | brk => exact False.elim hq
          | cont => exact False.elim hq
      · cases h
    · cases h
  · cases h
end
end DL

set_option maxRecDepth 100000
set_option maxHeartbeats 1000000
/-! t[::-1] of a tuple -/
namespace DL
open PySem PySem.Spec L2
open PyProof.Rows hiding St
section
variable {prog : Program} {w : World} {A : Around} {E : Value → Shared → Prop} {s : Shared}
theorem applied_back {sl : Addr} {vk : Value} {n : Nat} {Q : Int × Int × Nat → Shared → Prop} (hs : s.heap.IsSliceOf sl .none .none vk) (pk : IsPart vk (some (-1)))
    (h : Q ((n : Int) - 1, -1, n) s) : wpAny (model prog w) A (Builtin.Slice.sliceApplied (.ref sl) (pure (n : Int))) Q E s := by
  obtain ⟨os, hos, hcs, hds⟩ := id hs
  unfold Builtin.Slice.sliceApplied Builtin.Slice.sliceFields
  refine wpAny_bind (wpAny_bind (wpAny_field hos hds (x := .none) rfl (wpAny_bind (wpAny_field hos hds (x := .none) rfl (wpAny_bind (wpAny_field hos hds (x := vk) rfl (wpAny_pure ?_)))))))
  refine wpAny_bind (HT.slicePart_ pk ?_)
  show wpAny _ _ (if ((-1 : Int) == 0) = true then _ else _) _ _ s
  rw [if_neg (by decide)]
  refine wpAny_bind (HT.slicePart_ .none (wpAny_bind (HT.slicePart_ .none (wpAny_bind (wpAny_pure ?_)))))
  show wpAny _ _ (pure ((n : Int) - 1, (-1 : Int), Builtin.Slice.slicePlaces ((n : Int) - 1) (-1) (-1))) _ _ s
  have e : Builtin.Slice.slicePlaces ((n : Int) - 1) (-1) (-1) = n := by
    unfold Builtin.Slice.slicePlaces
    have h1 : ¬ ((-1 : Int) > 0) := by decide
    simp only [h1, if_false]
    split
    · have e : ((n : Int) - 1 - -1 - 1) / (- -1) = ((n : Int) - 1) := by
        rw [show (- -1 : Int) = 1 by decide, Int.ediv_one]; omega
      omega
    · omega
  rw [e]
  exact wpAny_pure h
theorem fm_congr {α β : Type} {f g : α → Option β} : ∀ {l : List α}, (∀ x ∈ l, f x = g x) → l.filterMap f = l.filterMap g
  | [], _ => rfl
  | a :: l, h => by
    rw [List.filterMap_cons, List.filterMap_cons, h a List.mem_cons_self, fm_congr fun x hx => h x (List.mem_cons_of_mem _ hx)]
theorem pick_back (xs : Array Value) : ((List.range xs.size).filterMap fun (m : Nat) => xs[((xs.size : Int) - 1 + (m : Int) * -1).toNat]?).toArray = xs.toList.reverse.toArray := by
  have e1 : (List.range xs.size).filterMap (fun (m : Nat) => xs[((xs.size : Int) - 1 + (m : Int) * -1).toNat]?) = (List.range xs.size).filterMap fun m => xs[xs.size - 1 - m]? := fm_congr fun m hm => by
    have := List.mem_range.mp hm
    have e : ((xs.size : Int) - 1 + (m : Int) * -1).toNat = xs.size - 1 - m := by omega
    rw [e]
  have e2 : (List.range xs.size).filterMap (fun m => xs[xs.size - 1 - m]?) = (((List.range xs.size).map fun k => xs.size - 1 - k)).filterMap (xs[·]?) := by
    rw [List.filterMap_map]; rfl
  rw [e1, e2, PySem.W.krv_range, List.filterMap_reverse, PySem.W.krv_all]
theorem getItem_back {t sl : Addr} {items : Array Value} {vk : Value} {Q : Value → Shared → Prop} (ht : IsTup s.heap t items) (hs : s.heap.IsSliceOf sl .none .none vk) (pk : IsPart vk (some (-1)))
    (h : Q (.ref s.heap.objs.size) { s with heap := s.heap.push { cls := .type "tuple", data := .seq items.toList.reverse.toArray } }) (hsz : items.size ≤ sizeLine) : wpAny (model prog w) A (getItem (.ref t) (.ref sl)) Q E s := by
  have hz : sizeOk (.seq items.toList.reverse.toArray) := by
    show items.toList.reverse.toArray.size ≤ sizeLine
    rw [List.size_toArray, List.length_reverse, Array.length_toList]
    exact hsz
  obtain ⟨os, hos, hcs, hds⟩ := id hs
  have hTs : s.TypeIs (.ref sl) "slice" := ⟨os, hos, hcs⟩
  unfold getItem
  try with_reducible refine wpAny_holding ?_
  first | refine wpAny_bind (wpAny_pure ?_) | skip
  refine wpAny_bind (wpAny_sequenceKey ht.typeIs (by decide) ?_)
  refine wpAny_bind (wpAny_callSpecial?_slot (name := Str.ofString "__getitem__") ht.typeIs PyProof.Rows.slot_tuple_getitem
    (wpAny_call_entry PyProof.Rows.slot_tuple_getitem ht.typeIs entry_tuple_getitem ?_ (args_tuple_getitem _ _)))
  show wpAny _ _ (Builtin.Tuple.tupleItemsOf (.ref t) >>= _) _ _ s
  refine wpAny_bind (tupleItemsOf_ ht ?_)
  refine wpAny_bind (wpAny_typeOf hTs ?_)
  rw [if_pos (by decide)]
  refine wpAny_bind (applied_back hs pk ?_)
  have hno : ¬ ((((items.size : Int) - 1) == 0 && (-1 : Int) == 1 && items.size == items.size) = true) := by simp
  show wpAny _ _ (if (((items.size : Int) - 1) == 0 && (-1 : Int) == 1 && items.size == items.size) = true then _ else _) _ _ s
  rw [if_neg hno, pick_back]
  first
    | exact wpAny_bind (m := Builtin.Tuple.tupleExact _) (wpAny_newObj_type (wpAny_pure ⟨_, rfl, wpAny_pure h⟩) hz)
    | exact wpAny_bind (m := Builtin.Tuple.tupleExact _) (wpAny_newObj_type (wpAny_bind (wpAny_pure (wpAny_pure ⟨_, rfl, wpAny_pure h⟩))) hz)
    | exact wpAny_bind (wpAny_bind (m := Builtin.Tuple.tupleExact _) (wpAny_newObj_type (wpAny_pure (wpAny_pure ⟨_, rfl, wpAny_pure h⟩)) hz))
    | exact wpAny_bind (wpAny_bind (m := Builtin.Tuple.tupleExact _) (wpAny_newObj_type (wpAny_pure ⟨_, rfl, wpAny_pure h⟩) hz))
end
section
variable {X : Cx} {e st : Expr} {te : TE} {tk : TO} {p2 pos : Pos}
def revP (K : PySem.W.Frag) (x : V) (k : Option Int) (H : Hp) (Q : VK) : Prop := k = some (-1) ∧ ((∃ a xs, x = .ref a ∧ SqT K H a xs ∧ ∀ p ob, H p = none → ob.dict = none → Q (.ref p) (upd H p (.frz ob (.tup xs.reverse)))) ∨ (∃ a xs, x = .ref a ∧ SqL K H a xs ∧ ∀ p, H p = none → Q (.ref p) (upd H p (.lst xs.reverse))))
theorem pe_rev (he : PE X e te) (hk : PO X (some st) tk) : PE X (.Subscript e (.Slice none none (some st) p2) pos) (fun σ H Q => te σ H fun x H1 => tk σ H1 fun k H2 => revP X.K x k H2 Q) := by
  refine ⟨fun pins s σ H Q I h => ?_⟩
  refine Subscript_ (thn (he.run pins s σ H _ I h) fun v s1 ⟨x, H1, I1, r1, q1⟩ => ?_)
  refine wpAny_Slice (thn (po_none.run pins s1 σ H1 _ I1 (show tNoPart σ H1 (fun o H' => o = none ∧ H' = H1) from ⟨rfl, rfl⟩)) fun vl s2 ⟨l, H2, I2, pl, q2⟩ => thn (po_none.run pins s2 σ H2 _ I2 (show tNoPart σ H2 (fun o H' => o = none ∧ H' = H2) from ⟨rfl, rfl⟩)) fun vu s3 ⟨u, H3, I3, pu, q3⟩ => ?_)
  obtain ⟨rfl, rfl⟩ := q2
  obtain ⟨rfl, rfl⟩ := q3
  cases pl
  cases pu
  refine thn (hk.run pins s3 σ _ _ I3 q1) fun vk s4 ⟨k, H4, I4, pk, ek, q4⟩ => ?_
  subst ek
  have I5 : Inv X pins σ H4 { s4 with heap := s4.heap.push { cls := .type "slice", data := .fields #[.none, .none, vk] } } := I4.kept (t' := s4.toks) fun b ob q => Heap.get?_push_of_some _ q
  have hf : H4 (s4.heap.push { cls := .type "slice", data := .fields #[.none, .none, vk] }).objs.size = none := I5.hok.fresh (Nat.le_refl _)
  rcases q4 with ⟨a, xs, ex, hx, q4⟩ | ⟨a, xs, ex, hx, q4⟩
  · subst ex
    cases r1
    obtain ⟨its, r, ht, hz⟩ := I5.tuple hx
    have len : its.toArray.size ≤ sizeLine := by rw [List.size_toArray, ← r.length]; exact hz
    show wpAny (model X.prog X.w) X.A (subscriptTail e (.Slice none none (some st) p2) (.ref a) (.ref s4.heap.objs.size)) (EP X pins σ Q) X.xe { s4 with heap := s4.heap.push { cls := .type "slice", data := .fields #[.none, .none, vk] } }
    refine tail_any ht.typeIs PyProof.Rows.slot_tuple_getitem.lookup (getItem_back ht (Heap.IsSliceOf.new ..) pk ⟨.ref (s4.heap.push { cls := .type "slice", data := .fields #[.none, .none, vk] }).objs.size, _, newT I5 r.reverse (by rw [List.length_reverse]; exact hz), rfl, q4 _ _ hf rfl⟩ len) (by with_unfolding_all rfl)
  · subst ex
    cases r1
    obtain ⟨its, r, ht, hz⟩ := I5.list hx
    have hlen := r.length
    have sz : its.toArray.size ≤ sizeLine := by rw [List.size_toArray]; omega
    show wpAny (model X.prog X.w) X.A (subscriptTail e (.Slice none none (some st) p2) (.ref a) (.ref s4.heap.objs.size)) (EP X pins σ Q) X.xe { s4 with heap := s4.heap.push { cls := .type "slice", data := .fields #[.none, .none, vk] } }
    refine tail_any (ops := [.ref a, .ref s4.heap.objs.size]) ht.isList.typeIs PySem.slot_list_getitem.lookup (wpAny_getItem_list_slice ht.isList (Heap.IsSliceOf.new ..) .none .none pk (by decide) ?_ sz) (by with_unfolding_all rfl)
    rw [PySem.W.krv_pick]
    refine ⟨.ref _, _, I5.laid (t' := s4.toks) (o := .lst xs.reverse) (fun b u e => Heap.get?_push_of_some _ e) (Nat.le_refl _) ?_, rfl, q4 _ hf⟩
    exact ⟨by rw [List.length_reverse]; exact hz, _, 0, r.reverse, Heap.get?_push_size _ rfl⟩
end
theorem RVs.rev {K : PySem.W.Frag} {G : Hp} : ∀ {l : List D} {xs : List V}, RVs K G l xs → RVs K G l.reverse xs.reverse
  | [], _, h => by rw [h.inv_nil]; exact .nil
  | d :: l, _, h => by
    obtain ⟨x, r, rfl, hd, ht⟩ := h.inv_cons
    rw [List.reverse_cons, List.reverse_cons]
    exact (RVs.rev ht).append (.cons hd .nil)
def revD (d i : D) : Option D := match d, i with
  | .tup l, .int n => if n = -1 then some (.tup l.reverse) else none
  | .lst l, .int n => if n = -1 then some (.lst l.reverse) else none
  | _, _ => none
def mRev (ma mk : ME) : ME := fun ρ => (ma ρ).bind fun d ρ1 => (mk ρ1).bind fun i ρ2 => opt (revD d i) ρ2
section
variable {X : Cx} {a b : Expr} {ma mb : ME} {p2 pos : Pos}
theorem se_rev (ha : SE X a ma) (hb : SE X b mb) : SE X (.Subscript a (.Slice none none (some b) p2) pos) (mRev ma mb) :=
  ET.se (tf := fun Y => fun σ H Q => wE Y a σ H fun x H1 => tPart (wE Y b) σ H1 fun k H2 => revP Y.K x k H2 Q)
    (fun o σ H G own ρ α r Q c nb hx k => use2 ha hb rfl c nb hx fun d1 d2 ρ2 v1 v2 H2 G2 own2 nb2 e c2 x r1 r2 => by
      obtain ⟨d, e1, e2⟩ := opt_nb nb2
      unfold revD at e1
      split at e1
      · rename_i l n
        split at e1
        · rename_i hn
          subst hn
          cases e1
          obtain rfl := r2.int_inv
          obtain ⟨ad, xs, rfl, h1, h2⟩ := r1.tup_inv
          refine ⟨-1, rfl, rfl, .inl ⟨ad, xs, rfl, c2.good.tup h1, fun p ob hp ho => ?_⟩⟩
          obtain ⟨G', own', c', x', rv⟩ := okd_tup (o := o) (σ := σ) (ρ := ρ2) c2 h2.rev hp ho
          exact k _ ρ2 _ _ G' own' (e.trans e2) c' (x.trans x') rv
        · cases e1
      · rename_i l n
        split at e1
        · rename_i hn
          subst hn
          cases e1
          obtain rfl := r2.int_inv
          obtain ⟨ad, xs, rfl, h1, h2⟩ := r1.lst_inv
          refine ⟨-1, rfl, rfl, .inr ⟨ad, xs, rfl, c2.good.lst h1, fun p hp => ?_⟩⟩
          obtain ⟨G', own', c', x', rv⟩ := okd_lst (o := o) (σ := σ) (ρ := ρ2) c2 h2.rev hp
          exact k _ ρ2 _ _ G' own' (e.trans e2) c' (x.trans x') rv
        · cases e1
      · cases e1) fun _ => pe_rev pe_w (po_some pe_w)
end
end DL

set_option maxRecDepth 100000
set_option maxHeartbeats 1000000
/-! != of an instance whose class has its own __eq__ and no __ne__ -/
namespace DL
open PySem PySem.Spec L2
open PyProof.Rows hiding St
section
open PySem.W
variable {prog : Program} {w : World} {A : Around} {E : Value → Shared → Prop} {s : Shared} {h₀ : Heap} {L x C f : Addr} {m : Str → Option Value} {K : PySem.W.Frag} {ox : Obj} {od : Option Obj} {b tb : Value}
def NotBack (Q : Value → Shared → Prop) (v : Value) (s' : Shared) : Prop := ∃ r, v = .bool r ∧ Q (.bool (!r)) s'
theorem slot_ne : Slot "object" "__ne__" "object.__ne__" := .of (owner := "object") (n := "__ne__") (by rw [typeLookup_type, builtinLookup_eq_fast]; kernel_rfl) (by decide +kernel) (by decide +kernel) (by decide +kernel)
    (by first | exact .inl (by decide +kernel) | exact .inr (by decide +kernel)) (by rw [isSubtype_type]; kernel_rfl)
theorem ne_K {Q : Value → Shared → Prop} (hu : A.units + 2 < cLine) (F0 : Fr h₀ L s.heap m) (X₀ : K.In h₀) (I : InstAt s.heap x ox C od) (hb : Looks (model prog w) s.heap (typeOf b) tb) (hn : notFirst K C tb = true)
    (hs : findIn K (.ref C) "__ne__" = some (some (.builtin "object.__ne__"))) (ho : subIn K (.ref C) (.type "object") = some true) (he : findIn K (.ref C) "__eq__" = some (some (.ref f))) (hf : isFn K (.ref f) = true)
    (h : wpAny (model prog w) A.in1 (call (.ref f) [.ref x, b]) (NotBack Q) E s) : wpAny (model prog w) A (richCompare .NotEq (.ref x) b) Q E s := by
  have X := X₀.keeps F0.keep
  have one : wpAny (model prog w) A (tryCompare (.ref x) "__ne__" b) (fun r s' => ∃ v, r = some v ∧ Q v s') E s := by
    unfold tryCompare
    refine wpAny_bind ?_
    simp only [callSpecialIfBound?, bindSpecialIfBound?]
    refine wpAny_holding (wpAny_bind (wpAny_bind (wpAny_bind (I.type.here ((looks_findIn X hs).here ?_)))))
    have go : wpAny (model prog w) A (call (.builtin "object.__ne__") [.ref x, b]) (fun v s' => ∃ r, v = .bool r ∧ Q (.bool r) s') E s := by
      refine wpAny_call (codeAny_call_builtin slot_ne.plain F.cmpEntry_ne (check_slot F.cmpKind_ne F.cmpSplit_ne (I.type.andThen (looks_subIn X ho)) (F.cmpArgs_ne _ _) ?_))
      unfold Builtin.«object.__ne__»
      refine wpAny_bind (wpAny_pure ?_)
      refine wpAny_bind (wpAny_cRoomFor (by show A.units + 1 < cLine; omega) ?_)
      refine wpAny_bind (ifBound_K X I he hf (wpAny_mono h (fun v s' hv => ?_) fun _ _ e => e))
      obtain ⟨r, rfl, hq⟩ := hv
      refine wpAny_bind (wpAny_pure ?_)
      exact wpAny_pure ⟨_, rfl, hq⟩
    simp only [slot_ne.bind]
    refine wpAny_bind (wpAny_askSetting (wpAny_ite ?_))
    have fin : ∀ {Q' : Option Value → Shared → Prop}, (∀ r s', Q (.bool r) s' → Q' (some (.bool r)) s') → wpAny (model prog w) A (call (.builtin "object.__ne__") ([.ref x] ++ [b]) >>= fun v => pure (some v)) Q' E s := fun hQ =>
      wpAny_bind (wpAny_mono go (fun v s' ⟨r, er, q⟩ => by subst er; exact wpAny_pure (hQ r s' q)) fun _ _ e => e)
    split
    · exact wpAny_bind (wpAny_pure (wpAny_pure (fin fun r s' q => wpAny_pure ⟨_, rfl, q⟩)))
    · exact wpAny_tryCatch (wpAny_bind (wpAny_pure (wpAny_pure (fin fun r s' q => wpAny_pure ⟨_, rfl, q⟩))))
  unfold richCompare
  simp only [oneThing_ref]
  refine wpAny_holding (wpAny_bind (wpAny_cRoomFor (by omega) ?_))
  refine wpAny_bind (I.type.here (wpAny_bind (hb.here ?_)))
  split
  · rename_i q
    have e : subIn K tb (.ref C) = some false := by
      rcases Bool.or_eq_true_iff.mp hn with e | e
      · rw [beq_iff_eq.mp e] at q; simp at q
      · exact beq_iff_eq.mp e
    refine wpAny_bind ((looks_subIn X e).here ?_)
    simp only [Bool.false_eq_true, if_false]
    refine wpAny_bind (wpAny_mono one (fun r s' z => ?_) fun _ _ e => e)
    obtain ⟨v, rfl, hq⟩ := z
    exact wpAny_pure hq
  · refine wpAny_bind (wpAny_pure ?_)
    simp only [Bool.false_eq_true, if_false]
    refine wpAny_bind (wpAny_mono one (fun r s' z => ?_) fun _ _ e => e)
    obtain ⟨v, rfl, hq⟩ := z
    exact wpAny_pure hq
end
def neOwn (K : PySem.W.Frag) (C : Addr) (den : Den) : D → D → Option D := fun a b => (eqOwn K C den a b).bind fun d => match d with
  | .bl r => some (.bl (!r))
  | _ => none
section
variable {X : Cx}
theorem opx_ownNe {k : Nat} {C : Addr} {den : Den} (F : EqC X.prog X.w X.K X.mg X.base k C den) (hr : Room (k + 1) X.A) (hne : PySem.W.findIn X.K (.ref C) "__ne__" = some (some (.builtin "object.__ne__"))) (hob : PySem.W.subIn X.K (.ref C) (.type "object") = some true) : OpX X (compareOp .NotEq) (neOwn X.K C den) := by
  obtain ⟨f, fd, ps, F1, hs, hf, hb⟩ := F.fn
  intro E o σ H G own ρ dx dy d x y c hx hy h
  unfold neOwn eqOwn at h
  obtain ⟨bd, h, hbd⟩ := Option.bind_eq_some_iff.mp h
  split at h
  · rename_i cc ns l _z
    split at h
    · rename_i hc
      obtain ⟨rfl, nf⟩ := hc
      split at h
      · rename_i b0 ρc e1
        cases h
        cases hbd
        have hp : spD X.K 2 den [x, y] H (fun v H' => (∃ b, v = .bl b ∧ OkD X.K o σ ρ G (.bl (!b0)) (.bl (!b)) H')) (fun _ _ _ => False) := by
          refine sp_call (σ := σ) (ρ := ρ) (tv := .non) (l := [.d (.ins cc ns l), .d dy]) c (.cons hx (.cons hy .nil)) rfl ?_ (fun c' ρ' v H' G' own' e c2 x2 rc => ?_) fun cls d H' w => ?_
          · rw [call2 e1]
            simp
          · rw [call2 e1] at e
            cases e
            have q : RV X.K G' (.bl b0) v := rc
            have q2 : v = .bl b0 := q
            subst q2
            exact ⟨b0, rfl, G', own', c2, x2, (rv_bl : RV X.K G' (.bl (!b0)) _)⟩
          · rw [call2 e1] at w
            obtain ⟨_, _, _, e, _⟩ := w
            cases e
        refine ⟨fun x y H Q => ∃ G own dy, Good H G own ∧ RV X.K G (.ins cc ns l) x ∧ RV X.K G dy y ∧ nfB X.K cc dy = true ∧ spD X.K 2 den [x, y] H (fun v H' => ∃ b, v = .bl b ∧ Q (.bl (!b)) H') (fun _ _ _ => False), ?_, G, own, dy, c.good, hx, hy, nf, hp⟩
        intro pins s σ H x y v u Q I rx ry hq
        obtain ⟨G, own, dy, g, hx, hy, nf, sp⟩ := hq
        obtain ⟨tb, LT, nf2⟩ := looks_data I g hy ry nf
        obtain ⟨a, dxa, fs, rfl, h1, h2, h3, h4⟩ := hx
        obtain rfl : v = Value.ref a := rx
        obtain ⟨mA, J, _⟩ := ins_get I.hok (g.rdi _ _ (.ins _ _ _) h1)
        obtain ⟨od, J, _⟩ := J.look
        obtain ⟨m, hF⟩ := I.fr
        have hl := F1.len _ _ _ _ sp
        show wpAny _ _ (richCompare .NotEq (.ref a) u) _ _ _
        refine ne_K (tb := tb) (by have := hr.un; show X.A.units + 2 < cLine; omega) hF I.ok.mod.kin J LT nf2 hne hob hs hf ?_
        refine wpAny_call (codeAny_mono (F1.run X.A.in1 X.stack s H ⟨[.ref a, u], []⟩ [.ref a, u] [.ref a, y] _ _ hr.in1 I.env0.in1 (by
          have := hb s [.ref a, u] I.kIn (by simpa using hl)
          simpa using this) (.cons rfl (.cons ry .nil)) sp) fun r s' hq => ?_)
        cases r with
        | error e =>
          obtain ⟨_, _, _, _, _, _, _, _, _, _, _, _, q⟩ := hq
          exact q.elim
        | ok fl =>
          cases fl with
          | ret w =>
            obtain ⟨z, H', I', rz, b, rfl, q⟩ := I.after hq
            cases rz
            exact ⟨b, rfl, .bl (!b), H', I', rfl, q⟩
          | next => exact False.elim hq
          | brk => exact False.elim hq
          | cont => exact False.elim hq
      · cases h
    · cases h
  · cases h
end
end DL

set_option maxRecDepth 100000
set_option maxHeartbeats 2000000
namespace DL
open PySem PySem.Spec L2
open PyProof.Rows hiding St

/-! ### enumerate of a tuple -/
open AutoSeq1 in
theorem enumNewT (tu : Addr) (vs : Array Value) (n : Nat) (dc : Option Addr) (sl : Array (Option Value)) :
    Meets (Builtin.«enumerate.__new__» ⟨[.type "enumerate", .ref tu], []⟩) (fun _ R s => s.heap.get? tu = some { cls := .type "tuple", dict := dc, data := .seq vs n, slots := sl } ∧
      R (.ok (.ret (.ref (s.heap.push { cls := .type "tuple_iterator", data := .fields #[.ref tu, .int 0 0] }).objs.size)))
        { s with heap := (s.heap.push { cls := .type "tuple_iterator", data := .fields #[.ref tu, .int 0 0] }).push { cls := .type "enumerate", data := .fields #[.none, .bool false, .ref s.heap.objs.size, rawInt 0, .none, .none] } }) :=
  .of_wp fun prog w A R s h => by
    obtain ⟨hp, g, d, tk, os⟩ := s; obtain ⟨at0, h⟩ := h
    have hsub := sub_enumerate
    have isT : Heap.IsTuple (Shared.heap ⟨hp, g, d, tk, os⟩) tu vs := ⟨_, at0, rfl, n, rfl⟩
    wp_walk using wpAny_loadPart' at0
    refine wpAny_stack_any fun st => wpAny_pure ?_
    split
    · rename_i c _ _ _ _ _
      cases (c == Value.type "enumerate")
      · wp_walk using wpAny_loadPart' at0, wpAny_pyIter_tuple isT
        exact ⟨_, rfl, h⟩
      · wp_walk using wpAny_loadPart' at0, wpAny_pyIter_tuple isT
        exact ⟨_, rfl, h⟩
    · wp_walk using wpAny_loadPart' at0, wpAny_pyIter_tuple isT
      exact ⟨_, rfl, h⟩
theorem callEnumT {prog : Program} {w : World} {A : Around} {E : Value → Shared → Prop} {s : Shared} {tu : Addr} {vs : Array Value} {Q : Value → Shared → Prop} (isT : s.heap.IsTuple tu vs)
    (h : ∀ h', IsEnum h' (s.heap.objs.size + 1) s.heap.objs.size 0 .none → h'.IsTupleIter s.heap.objs.size tu 0 → h'.objs.size = s.heap.objs.size + 2 →
      (∀ b o, s.heap.get? b = some o → h'.get? b = some o) → Q (.ref (s.heap.objs.size + 1)) { s with heap := h' }) :
    wpAny (model prog w) A (call (.type "enumerate") [.ref tu]) Q E s := by
  obtain ⟨⟨c, dc, dt, sl⟩, hl, hc, n, hd⟩ := isT
  simp only at hc hd
  subst hc hd
  refine callType_new F.called_enumerate (by decide) (F.typeCall_enumerate_1 _) (F.newCall_enumerate_1 _) (fun ob => F.args_object_init_2 ob _) F.entry_enumerate_new (enumNewT tu vs n dc sl) ⟨hl, ?_⟩
  have hz : (s.heap.push { cls := .type "tuple_iterator", data := .fields #[.ref tu, .int 0 0] }).objs.size = s.heap.objs.size + 1 := Heap.size_push ..
  show _ ∧ _
  rw [hz]
  have en : IsEnum ((s.heap.push { cls := .type "tuple_iterator", data := .fields #[.ref tu, .int 0 0] }).push
      { cls := .type "enumerate", data := .fields #[.none, .bool false, .ref s.heap.objs.size, rawInt 0, .none, .none] }) (s.heap.objs.size + 1) s.heap.objs.size 0 .none := by
    have q := Heap.get?_push_size (s.heap.push { cls := .type "tuple_iterator", data := .fields #[.ref tu, .int 0 0] })
      (o := { cls := .type "enumerate", data := .fields #[.none, .bool false, .ref s.heap.objs.size, rawInt 0, .none, .none] }) rfl
    rw [hz] at q; exact q
  exact ⟨⟨_, en, rfl⟩, h _ en ⟨_, Heap.get?_push_of_some _ (Heap.get?_push_size _ rfl), rfl, rfl⟩ (by rw [Heap.size_push, hz]) fun b o y => Heap.get?_push_of_some _ (Heap.get?_push_of_some _ y)⟩
/-- the tuple at a, each item in a new pair -/
def IteT (K : PySem.W.Frag) (a : Addr) : It :=
  ⟨fun i H => ∃ (xs : List V) (x : V), SqT K H a xs ∧ xs[i]? = some x, fun i H v H' => ∃ T x, v = .ref T ∧ H T = none ∧ H' = upd H T (.tup [.int (i : Nat), x]) ∧ ∀ xs, SqT K H a xs → xs[i]? = some x, fun i H => ∃ xs : List V, SqT K H a xs ∧ xs.length = i⟩
theorem turn_enumT {P : Program} {w : World} {K : PySem.W.Frag} {elts : List Expr} {kk : Nat} {tpos : Pos} (a e it : Addr) :
    Turn P w K (.Tuple elts kk tpos) (IteT K a) [e, it] e (fun i h => (∃ old, IsEnum h e it ((i : Nat) : Int) old) ∧ h.IsTupleIter it a i ∧ e ≠ it ∧ a ≠ it ∧ a ≠ e) where
  mem := by simp
  obj := fun i h st b hb => by
    obtain ⟨⟨old, he⟩, ⟨o, ho, hc, hd⟩, _⟩ := st
    rcases (by simpa using hb : b = e ∨ b = it) with z | z
    · rw [z]; exact ⟨_, he, fun v q => nomatch q⟩
    · rw [z]; exact ⟨o, ho, fun v q => by rw [hd] at q; cases q⟩
  keep := fun i h h' st k => ⟨st.1.imp fun old he => k e (by simp) _ he, st.2.1.at fun o q => k it (by simp) o q, st.2.2⟩
  item := by
    intro X hP hw hK hc i pins s σ H E I hf st hg
    subst hP hw hK
    obtain ⟨⟨old, he⟩, hit, hne, ha1, ha2⟩ := st
    obtain ⟨xs, x, hq, hx⟩ := hg
    obtain ⟨its, rv, pT, hz⟩ := I.tuple hq
    have szE : e < s.heap.objs.size := Heap.lt_size he
    have szI : it < s.heap.objs.size := by obtain ⟨_, q, _⟩ := hit; exact Heap.lt_size q
    have hi : i < its.toArray.size := by
      rw [List.size_toArray, ← rv.length]
      exact (List.getElem?_eq_some_iff.mp hx).1
    have D := Draws.tuple (prog := X.prog) (w := X.w) (A := X.A.in1) (I.ok.hd hc) it a ha1 its.toArray
    have pT' : s.heap.IsTuple a its.toArray := pT
    refine wpAny_pyNext_enum_itemD D he ⟨hit, pT'⟩ hi hne (by simp only [List.mem_cons, List.not_mem_nil, or_false, not_or]; exact ⟨hne, Ne.symm ha2⟩) fun u h' tk hu ho st' hT hsz hk => ?_
    refine ⟨_, rfl, wpAny_letOwnedTupleGo_enum (s := { s with heap := h', toks := tk + 1 }) ho fun h'' en' sb => ?_⟩
    obtain ⟨u', hu', ru⟩ := rv.get hx
    have eu : u = u' := by
      have q : its[i]? = some u := by simpa using hu
      rw [hu'] at q; cases q; rfl
    subst eu
    have hT2 : h''.get? s.heap.objs.size = some { cls := .type "tuple", data := .seq #[.int i tk, u] } := (sb.2 _ (Nat.ne_of_gt szE)).trans hT
    have new : ObjOk X.prog X.w (upd H s.heap.objs.size (.tup [.int (i : Nat), x])) h'' s.heap.objs.size (.tup [.int (i : Nat), x]) :=
      ⟨by show 2 ≤ sizeLine; decide, [.int i tk, u], .cons ⟨_, rfl⟩ (.cons ru .nil), ⟨_, hT2, rfl, _, rfl⟩⟩
    have J : Inv X pins σ (upd H s.heap.objs.size (.tup [.int (i : Nat), x])) { s with heap := h'', toks := tk + 1 } :=
      I.turnedNew (ch := [e, it]) (fun b ob hb q => (sb.2 b fun z => hb (by simp [z])).trans (hk b ob (fun z => hb (by simp [z])) (fun z => hb (by simp [z])) q)) hf (Nat.le_refl _) new
    refine ⟨.ref s.heap.objs.size, _, J, rfl, ⟨_, x, rfl, I.hok.fresh (Nat.le_refl _), rfl, fun ys hy => by rw [I.tuple_inj hy hq]; exact hx⟩, ⟨⟨u, ?_⟩, st'.1.at fun o q => (sb.2 it (Ne.symm hne)).trans q, hne, ha1, ha2⟩, fun b hb => ?_⟩
    · rw [show ((i + 1 : Nat) : Int) = (i : Int) + 1 by omega]; exact en'
    · have sz : b < s.heap.objs.size := by
        rcases (by simpa using hb : b = e ∨ b = it) with z | z
        · rw [z]; exact szE
        · rw [z]; exact szI
      rw [upd_ne (Nat.ne_of_lt sz)]
      exact (hf b hb).1
  done := by
    intro X hP hw hK hc i pins s σ H E I hf st hg
    subst hP hw hK
    obtain ⟨⟨old, he⟩, hit, hne, ha1, ha2⟩ := st
    obtain ⟨xs, hq, hx⟩ := hg
    obtain ⟨its, rv, pT, hz⟩ := I.tuple hq
    obtain ⟨f0, f1, f2, f3, f4, f5⟩ := hf it (by simp)
    have D := Draws.tuple (prog := X.prog) (w := X.w) (A := X.A.in1) (I.ok.hd hc) it a ha1 its.toArray
    have hn : its.toArray.size = i := by rw [List.size_toArray, ← rv.length]; exact hx
    rw [← hn] at hit
    exact wpAny_pyNext_enum_endD D he ⟨hit, show s.heap.IsTuple a its.toArray from pT⟩ fun h' eb => ⟨rfl, I.turned (t' := s.toks) (fun b o hb q => eb b o hb q) f0 f1 f3 f4 f5⟩
  self := fun A i s Q E st h => let ⟨⟨_, he⟩, _⟩ := st; wpAny_pyIter_enum he h
def iEnumT (K : PySem.W.Frag) (ta : TA) : TI := fun σ H R => ta σ H fun vs H1 => ∃ a xs, vs = [.ref a] ∧ SqT K H1 a xs ∧ R (IteT K a) H1
theorem pi_enumT {X : Cx} {e : Expr} {ta : TA} {p pos tpos : Pos} {elts : List Expr} {kk : Nat} (hg : Gl X "enumerate") (hm : X.mg "enumerate" = none) (ha : PA X [e] ta) (hs : starEach [e] X.env = [(false, eval e X.env)] := by rfl) :
    PI X (.Tuple elts kk tpos) (.Call (.Name "enumerate" p) [e] [] pos) (iEnumT X.K ta) := by
  refine ⟨fun pins s σ H R I h => ?_⟩
  refine Call_ (ld_blt I hg hm boot_enumerate (PyProof.Rows.callWith_type1 (thn (ha.run pos pins s σ H _ I h) fun us s1 ⟨vs, H1, I1, r1, q1⟩ => ?_) hs rfl))
  obtain ⟨a, xs, ex, hq, q⟩ := q1
  subst ex
  obtain ⟨u, rfl, ru⟩ := vals1 r1
  cases ru
  obtain ⟨its, rv, pT, hz⟩ := I1.tuple hq
  have lt : a < s1.heap.objs.size := pT.lt
  refine callEnumT (show s1.heap.IsTuple a its.toArray from pT) fun h' en hit hsz hk => wpAny_pyIter_enum en ?_
  have I2 : Inv X pins σ H1 { s1 with heap := h' } := I1.kept (t' := s1.toks) hk
  refine ⟨s1.heap.objs.size + 1, [s1.heap.objs.size + 1, s1.heap.objs.size], _, _, H1, rfl, I2, turn_enumT a (s1.heap.objs.size + 1) s1.heap.objs.size, ⟨⟨.none, en⟩, hit, Nat.succ_ne_self _, Nat.ne_of_lt lt, Nat.ne_of_lt (Nat.lt_succ_of_lt lt)⟩, fun b hb => ?_, q⟩
  have hle : s1.heap.objs.size ≤ b := by
    rcases (by simpa using hb : b = s1.heap.objs.size + 1 ∨ b = s1.heap.objs.size) with z | z
    · rw [z]; exact Nat.le_succ _
    · rw [z]; exact Nat.le_refl _
  exact I1.fpOk hle (I1.hok.fresh hle)
section
variable {X : Cx} {o : Orig} {σ : L2.St} {H G : Hp} {own : Own} {ρ : Env} {a tg : Expr} {me : ME} {pos p : Pos}
theorem wk_enumT {K : PySem.W.Frag} {H1 : Hp} {own1 : Own} {l : List D} {xs : List V} {G1 : Hp} {a : Addr} {v0 : V} (h1 : TupAt K G1 a xs) (h2 : RVs K G1 l xs) : Wk true K (IteT K a) (enumD 0 l) H1 G1 own1 none v0 := by
  have hn : (enumD 0 l).length = xs.length := by rw [enumD_len, h2.length]
  refine ⟨fun i o σ H G own ρ hi c x _ _ => ⟨xs, xs[i]'(by omega), c.good.tup (h1.mono x), by simp [show i < xs.length by omega]⟩, fun o σ H G own ρ c x _ _ => ⟨xs, c.good.tup (h1.mono x), hn.symm⟩, fun i x H' o σ H G own ρ hi c x' _ _ y => ?_⟩
  obtain ⟨T, z, e1, e2, e3, e5⟩ := y
  obtain ⟨d, hd, rd⟩ := h2.get' (e5 xs (c.good.tup (h1.mono x')))
  exact .inr ⟨rfl, T, _, [.int ((i : Nat) : Int), d], e1, e2, e3, by have := enumD_get (n := 0) hd; rw [Nat.zero_add] at this; exact this, .cons rv_int (.cons (RV.mono x' _ _ rd) .nil)⟩
/-- enumerate of a list or a tuple -/
def iEnumA (me : ME) : Env → R (List D) := fun ρ => (me ρ).bind fun d ρ1 => match d with
  | .lst l => .ok (enumD 0 l) ρ1
  | .tup l => .ok (enumD 0 l) ρ1
  | _ => .bad
theorem si_enumA {elts : List Expr} {kk : Nat} {tpos : Pos} (hg : Gl X "enumerate") (hm : X.mg "enumerate" = none) (ha : SE X a me) (hs : starEach [a] X.env = [(false, eval a X.env)] := by rfl) : SI X (.Tuple elts kk tpos) (.Call (.Name "enumerate" p) [a] [] pos) (iEnumA me) none := fun o σ H G own ρ α r RR c nb hx kk => by
  cases e0 : me ρ with
  | bad => exact absurd e0 (R.bind_nb nb)
  | exc cl fs ρ1 =>
    refine ⟨_, pi_enum (X := Cx.to X o r) hg hm (pa_cons pe_w pa_nil hs) hs, ?_⟩
    refine ha.we c (R.bind_nb nb) (Xle.bind.trans hx) fun d ρ1 v H1 G1 own1 e1 c1 x1 r1 => ?_
    rw [e0] at e1; cases e1
  | ok d ρ0 =>
    have nb2 := nb
    unfold iEnumA at nb2
    rw [e0, R.bind_ok] at nb2
    cases d with
    | lst l =>
      refine ⟨_, pi_enum (X := Cx.to X o r) hg hm (pa_cons pe_w pa_nil hs) hs, ?_⟩
      refine ha.we c (R.bind_nb nb) (Xle.bind.trans hx) fun d ρ1 v H1 G1 own1 e1 c1 x1 r1 => ?_
      rw [e0] at e1; cases e1
      obtain ⟨a, xs, rfl, h1, h2⟩ := r1.lst_inv
      exact ⟨a, xs, rfl, c1.good.lst h1, kk _ _ H1 G1 own1 _ .non (by unfold iEnumA; rw [e0]; rfl) c1 x1 (wk_enum h1 h2) fun _ z => nomatch z⟩
    | tup l =>
      refine ⟨_, pi_enumT (X := Cx.to X o r) hg hm (pa_cons pe_w pa_nil hs) hs, ?_⟩
      refine ha.we c (R.bind_nb nb) (Xle.bind.trans hx) fun d ρ1 v H1 G1 own1 e1 c1 x1 r1 => ?_
      rw [e0] at e1; cases e1
      obtain ⟨a, xs, rfl, h1, h2⟩ := r1.tup_inv
      exact ⟨a, xs, rfl, c1.good.tup h1, kk _ _ H1 G1 own1 _ .non (by unfold iEnumA; rw [e0]; rfl) c1 x1 (wk_enumT h1 h2) fun _ z => nomatch z⟩
    | _ => exact absurd rfl nb2
end
end DL

set_option maxRecDepth 100000
set_option maxHeartbeats 1000000
/-! readings that don't name the written part: what is asked of it stands in facts (yes or no) -/
namespace DL
open PySem PySem.Spec L2
open PyProof.Rows hiding St
section
variable {X : Cx} {o : Orig} {e a b : Expr} {m m' ma mb : ME} {pos p : Pos} {x : Str}
theorem SE.imp (h : SE X e m) (hi : ∀ ρ, m' ρ ≠ .bad → m ρ = m' ρ) : SE X e m' := fun o σ H G own ρ c nb => by
  have z := hi ρ nb
  have q := h o σ H G own ρ c (by rw [z]; exact nb)
  rw [z] at q
  exact q
theorem SO.imp {m m' : MO} (h : SO X e m) (hi : ∀ ρ, m' ρ ≠ .bad → m ρ = m' ρ) : SO X e m' := fun o σ H G own ρ c nb => by
  have z := hi ρ nb
  have q := h o σ H G own ρ c (by rw [z]; exact nb)
  rw [z] at q
  exact q
theorem SS.imp {np : Nat} {st : Stmt} {m m' : MS} (h : SS X np st m) (hi : ∀ ρ, m' ρ ≠ .bad → m ρ = m' ρ) : SS X np st m' := fun o σ H G own ρ hn c nb => by
  have z := hi ρ nb
  have q := h o σ H G own ρ hn c (by rw [z]; exact nb)
  rw [z] at q
  exact q
theorem HC.imp {np i : Nat} {suite : List Stmt} {m m' : MH} (h : HC X np i suite m) (hi : ∀ c fs ρ, m' c fs ρ ≠ .bad → m c fs ρ = m' c fs ρ) : HC X np i suite m' := fun a oe cls d pn hz hf o σ H G own ρ c fs dd vf hn ec ed hdd xf ho hg ha hs cf nb => by
  have z := hi c fs ρ nb
  have q := h a oe cls d pn hz hf o σ H G own ρ c fs dd vf hn ec ed hdd xf ho hg ha hs cf (by rw [z]; exact nb)
  rw [z] at q
  exact q
theorem OpX.imp {f : Value → Value → Sem Value} {g g' : D → D → Option D} (h : OpX X f g) (hi : ∀ a b d, g' a b = some d → g a b = some d) : OpX X f g' := fun E o σ H G own ρ dx dy d x y c hx hy e => h E o σ H G own ρ dx dy d x y c hx hy (hi _ _ _ e)
def orD (g g' : D → D → Option D) : D → D → Option D := fun a b => match g a b with
  | some d => some d
  | none => g' a b
theorem OpX.or {f : Value → Value → Sem Value} {g g' : D → D → Option D} (h : OpX X f g) (h' : OpX X f g') : OpX X f (orD g g') := fun E o σ H G own ρ dx dy d x y c hx hy e => by
  unfold orD at e
  cases z : g dx dy with
  | some d' =>
    rw [z] at e
    cases e
    exact h E o σ H G own ρ dx dy d x y c hx hy z
  | none =>
    rw [z] at e
    exact h' E o σ H G own ρ dx dy d x y c hx hy e
end
/-! ### constants of the module -/
def conS (u : Value) : D → Bool
  | .non => (match u with | .none => true | _ => false)
  | .bl b => (match u with | .bool c => b == c | _ => false)
  | .int i => (match u with | .int j _ => decide (j = i) | _ => false)
  | .str z => (match u with | .str y _ => decide (y = z) | _ => false)
  | _ => false
def conSs : List Value → List D → Bool
  | [], [] => true
  | u :: us, d :: ds => conS u d && conSs us ds
  | _, _ => false
theorem conS_ok {u : Value} {d : D} (h : conS u d = true) : ∃ v, RelV v u ∧ ∀ K G, RV K G d v := by
  cases d with
  | non =>
    cases u with
    | none => exact ⟨.non, rfl, fun K G => rv_non⟩
    | _ => cases h
  | bl b =>
    cases u with
    | bool c =>
      have e : b = c := by simpa [conS] using h
      subst e
      exact ⟨.bl b, rfl, fun K G => rv_bl⟩
    | _ => cases h
  | int i =>
    cases u with
    | int j t =>
      have e : j = i := of_decide_eq_true h
      subst e
      exact ⟨.int j, ⟨t, rfl⟩, fun K G => rv_int⟩
    | _ => cases h
  | str z =>
    cases u with
    | str j t =>
      have e : j = z := of_decide_eq_true h
      subst e
      exact ⟨.str j, ⟨t, rfl⟩, fun K G => rv_str⟩
    | _ => cases h
  | _ => cases h
theorem conSs_ok : ∀ {us : List Value} {ds : List D}, conSs us ds = true → ∃ vs, Vals vs us ∧ ∀ K G, RVs K G ds vs
  | [], [], _ => ⟨[], .nil, fun K G => .nil⟩
  | [], _ :: _, h => by cases h
  | _ :: _, [], h => by cases h
  | u :: us, d :: ds, h => by
    obtain ⟨h1, h2⟩ := Bool.and_eq_true_iff.mp (show (conS u d && conSs us ds) = true from h)
    obtain ⟨v, r1, r2⟩ := conS_ok h1
    obtain ⟨vs, r3, r4⟩ := conSs_ok h2
    exact ⟨v :: vs, .cons r1 r3, fun K G => .cons (r2 K G) (r4 K G)⟩
def conU (K : PySem.W.Frag) (u : Value) (d : D) : Bool := conS u d || (match d, u with
  | .tup l, .ref a => (match K.lookup a with
    | some ⟨.type c, none, .seq its _, _⟩ => decide (c = "tuple") && (decide (its.size ≤ sizeLine) && conSs its.toList l)
    | _ => false)
  | _, _ => false)
theorem conU_ok {K : PySem.W.Frag} {u : Value} {d : D} (h : conU K u d = true) : ∃ v, RelV v u ∧ ∀ G, RV K G d v := by
  rcases Bool.or_eq_true_iff.mp h with h | h
  · obtain ⟨v, r1, r2⟩ := conS_ok h
    exact ⟨v, r1, r2 K⟩
  · cases d with
    | tup l =>
      cases u with
      | ref a =>
        have h1 : (match K.lookup a with
          | some ⟨.type c, none, .seq its _, _⟩ => decide (c = "tuple") && (decide (its.size ≤ sizeLine) && conSs its.toList l)
          | _ => false) = true := h
        cases q : K.lookup a with
        | none => rw [q] at h1; cases h1
        | some ob =>
          obtain ⟨oc, od, dt, osl⟩ := ob
          rw [q] at h1
          cases od with
          | some _ => cases oc <;> cases dt <;> cases h1
          | none =>
          cases oc with
          | type c =>
            cases dt with
            | seq its n =>
              obtain ⟨h2, h3⟩ := Bool.and_eq_true_iff.mp (show (decide (c = "tuple") && (decide (its.size ≤ sizeLine) && conSs its.toList l)) = true from h1)
              obtain ⟨h4, h5⟩ := Bool.and_eq_true_iff.mp h3
              obtain ⟨vs, r1, r2⟩ := conSs_ok h5
              have h2' : c = "tuple" := of_decide_eq_true h2
              subst h2'
              exact ⟨.ref a, rfl, fun G => rv_tup (.inr ⟨_, its, n, q, rfl, rfl, of_decide_eq_true h4, r1, rfl⟩) (r2 K G)⟩
            | _ => cases h1
          | _ => cases dt <;> cases h1
      | _ => cases h
    | _ => cases h
/-- the module's name x is worth d -/
def ConD (K : PySem.W.Frag) (mg : Str → Option Value) (x : Str) (d : D) : Prop := ∃ v u, mg x = some u ∧ RelV v u ∧ ∀ G, RV K G d v
def conB (K : PySem.W.Frag) (x : Str) (d : D) : Bool := match PySem.W.nsIn K mainGlobals x with
  | some (some u) => conU K u d
  | _ => false
/-- what the module's names stand for, as the written part has it -/
def MgK (K : PySem.W.Frag) (mg : Str → Option Value) : Prop := ∀ x r, PySem.W.nsIn K mainGlobals x = some r → mg x = r
theorem conB_ok {K : PySem.W.Frag} {mg : Str → Option Value} (hm : MgK K mg) {x : Str} {d : D} (h : conB K x d = true) : ConD K mg x d := by
  unfold conB at h
  cases q : PySem.W.nsIn K mainGlobals x with
  | none => rw [q] at h; cases h
  | some r =>
    rw [q] at h
    cases r with
    | none => cases h
    | some u =>
      obtain ⟨v, r1, r2⟩ := conU_ok h
      exact ⟨v, u, hm x _ q, r1, r2⟩
def atB (K : PySem.W.Frag) (x : Str) (a : Addr) : Bool := decide (PySem.W.nsIn K mainGlobals x = some (some (.ref a)))
theorem atB_ok {K : PySem.W.Frag} {mg : Str → Option Value} (hm : MgK K mg) {x : Str} {a : Addr} (h : atB K x a = true) : mg x = some (.ref a) := hm x _ (of_decide_eq_true h)
def freeB (K : PySem.W.Frag) (xs : List Str) : Bool := xs.all fun x => decide (PySem.W.nsIn K mainGlobals x = some none)
theorem freeB_ok {K : PySem.W.Frag} {mg : Str → Option Value} (hm : MgK K mg) {xs : List Str} (h : freeB K xs = true) : ∀ x ∈ xs, mg x = none := fun x hx => hm x _ (of_decide_eq_true (List.all_eq_true.mp h x hx))
/-! ### isinstance -/
def insB (K : PySem.W.Frag) (C : Addr) : Bool := PySem.W.plainGet K C Str.empty && (PySem.W.hasDictIn K C && (PySem.W.plainOver K C && (decide (PySem.W.findIn K (.ref C) "__setattr__" = some (some (.builtin "object.__setattr__"))) &&
  (decide (PySem.W.findIn K (.ref C) "__class__" = some (some (.builtin "object.__class__"))) && (decide (PySem.W.specialIn K (.builtin "object.__class__") "__get__" = some (some (.builtin "getset_descriptor.__get__"))) &&
  (decide (PySem.W.takesIn K (.builtin "object.__class__") = some true) && decide (PySem.W.mroIn K C (.type "object") = some true)))))))
theorem ba2 {a b : Bool} (h : (a && b) = true) : a = true ∧ b = true := Bool.and_eq_true_iff.mp h
theorem insB_ok {K : PySem.W.Frag} {C : Addr} (h : insB K C = true) : InsOk K C := by
  obtain ⟨h1, h⟩ := ba2 h
  obtain ⟨h2, h⟩ := ba2 h
  obtain ⟨h3, h⟩ := ba2 h
  obtain ⟨h4, h⟩ := ba2 h
  obtain ⟨h5, h⟩ := ba2 h
  obtain ⟨h6, h⟩ := ba2 h
  obtain ⟨h7, h8⟩ := ba2 h
  exact ⟨⟨h1, h2, h3, of_decide_eq_true h4⟩, of_decide_eq_true h5, of_decide_eq_true h6, of_decide_eq_true h7, of_decide_eq_true h8⟩
/-- whether a value is of the types ty, or of the own classes cs (among the known ones cl) -/
def isiT (ty : List String) (cs cl : List Addr) : D → Option Bool
  | .non => some (ty.contains "NoneType") | .bl _ => some (ty.contains "bool") | .int _ => some (ty.contains "int") | .str _ => some (ty.contains "str")
  | .tup _ => some (ty.contains "tuple") | .lst _ => some (ty.contains "list") | .dic _ _ => some (ty.contains "dict")
  | .ins c _ _ => if cl.contains c = true then some (cs.contains c) else none
def tyNames : List String := ["NoneType", "bool", "int", "str", "tuple", "list", "dict"]
def isiB (K : PySem.W.Frag) (ty : List String) (cs cl : List Addr) (us : List Value) : Bool := tyNames.all (fun t => decide (PySem.W.kitAny K (.type t) us = some (ty.contains t))) && cl.all fun c => decide (PySem.W.kitAny K (.ref c) us = some (cs.contains c))
theorem isiB_ok {K : PySem.W.Frag} {ty : List String} {cs cl : List Addr} {us : List Value} (h : isiB K ty cs cl us = true) {d : D} {b : Bool} (e : isiT ty cs cl d = some b) : isiD K cl us d = some (.bl b) := by
  obtain ⟨h1, h2⟩ := ba2 h
  have k : ∀ t ∈ tyNames, PySem.W.kitAny K (.type t) us = some (ty.contains t) := fun t ht => of_decide_eq_true (List.all_eq_true.mp h1 t ht)
  unfold isiD
  cases d with
  | non => cases e; show (PySem.W.kitAny K (.type "NoneType") us).map D.bl = _; rw [k "NoneType" (by simp [tyNames])]; rfl
  | bl _ => cases e; show (PySem.W.kitAny K (.type "bool") us).map D.bl = _; rw [k "bool" (by simp [tyNames])]; rfl
  | int _ => cases e; show (PySem.W.kitAny K (.type "int") us).map D.bl = _; rw [k "int" (by simp [tyNames])]; rfl
  | str _ => cases e; show (PySem.W.kitAny K (.type "str") us).map D.bl = _; rw [k "str" (by simp [tyNames])]; rfl
  | tup _ => cases e; show (PySem.W.kitAny K (.type "tuple") us).map D.bl = _; rw [k "tuple" (by simp [tyNames])]; rfl
  | lst _ => cases e; show (PySem.W.kitAny K (.type "list") us).map D.bl = _; rw [k "list" (by simp [tyNames])]; rfl
  | dic _ _ => cases e; show (PySem.W.kitAny K (.type "dict") us).map D.bl = _; rw [k "dict" (by simp [tyNames])]; rfl
  | ins c _ _ =>
    have e' : (if cl.contains c = true then some (cs.contains c) else none) = some b := e
    split at e'
    · rename_i hc
      cases e'
      have hm : c ∈ cl := by simpa using hc
      show (if c ∈ cl then some (Value.ref c) else none).bind (fun t => (PySem.W.kitAny K t us).map D.bl) = _
      rw [if_pos hm, Option.bind_some, of_decide_eq_true (List.all_eq_true.mp h2 c hm)]; rfl
    · cases e'
def mIsT (ty : List String) (cs cl : List Addr) (ma : ME) : ME := fun ρ => (ma ρ).bind fun d ρ1 => opt ((isiT ty cs cl d).map .bl) ρ1
theorem mIsT_of {K : PySem.W.Frag} {ty : List String} {cs cl : List Addr} {us : List Value} (h : isiB K ty cs cl us = true) {ma : ME} : ∀ ρ, mIsT ty cs cl ma ρ ≠ .bad → mIsi K cl us ma ρ = mIsT ty cs cl ma ρ := fun ρ nb => by
  unfold mIsi mIsT at *
  cases e : ma ρ with
  | ok d ρ1 =>
    rw [e, R.bind_ok] at nb
    rw [R.bind_ok, R.bind_ok]
    cases z : isiT ty cs cl d with
    | none => rw [z] at nb; exact absurd rfl nb
    | some b => rw [isiB_ok h z]; rfl
  | exc c fs ρ1 => rfl
  | bad => rfl
section
variable {X : Cx} {e ec ed : Expr} {ma : ME} {pos p p2 p3 : Pos} {y y2 : Str} {ty : List String} {cs cl : List Addr}
theorem se_isT {n : String} (hC : ∀ C ∈ cl, InsOk X.K C) (hB : isiB X.K ty cs cl [.type n] = true) (hg : Gl X "isinstance") (hm : X.mg "isinstance" = none) (ha : SE X e ma) (hgy : Gl X y) (hmy : X.mg y = none) (hv : bootBuiltins y = some (.type n)) (hn : y ≠ "__name__" := by decide)
    (hdb : (y == ("__debug__" : Str)) = false := by decide) (he : starEach [e, .Name y p2] X.env = (false, eval e X.env) :: starEach [.Name y p2] X.env := by rfl) (he2 : starEach [.Name y p2] X.env = (false, eval (.Name y p2) X.env) :: starEach [] X.env := by rfl)
    (hpl : (backTo pos (starEach [.Name y p2] X.env)).any (·.1) = false := by rfl) : SE X (.Call (.Name "isinstance" p) [e, .Name y p2] [] pos) (mIsT ty cs cl ma) :=
  (se_isi hC hg hm ha (fun E => pe_bltn (X := X.wish E) (v := .ty n) hgy hmy hv rfl hn hdb) (.ty n) he he2 hpl).imp (mIsT_of hB)
theorem se_isT2 {n n2 : String} {k : Nat} (hC : ∀ C ∈ cl, InsOk X.K C) (hB : isiB X.K ty cs cl [.type n, .type n2] = true) (hg : Gl X "isinstance") (hm : X.mg "isinstance" = none) (ha : SE X e ma) (hgy : Gl X y) (hmy : X.mg y = none) (hv : bootBuiltins y = some (.type n)) (hgy2 : Gl X y2) (hmy2 : X.mg y2 = none) (hv2 : bootBuiltins y2 = some (.type n2))
    (hn : y ≠ "__name__" := by decide) (hdb : (y == ("__debug__" : Str)) = false := by decide) (hn2 : y2 ≠ "__name__" := by decide) (hdb2 : (y2 == ("__debug__" : Str)) = false := by decide)
    (he : starEach [e, .Tuple [.Name y p2, .Name y2 p3] k p] X.env = (false, eval e X.env) :: starEach [.Tuple [.Name y p2, .Name y2 p3] k p] X.env := by rfl) (he2 : starEach [.Tuple [.Name y p2, .Name y2 p3] k p] X.env = (false, eval (.Tuple [.Name y p2, .Name y2 p3] k p) X.env) :: starEach [] X.env := by rfl)
    (he3 : starEach [.Name y p2, .Name y2 p3] X.env = (false, eval (.Name y p2) X.env) :: starEach [.Name y2 p3] X.env := by rfl) (he4 : starEach [.Name y2 p3] X.env = (false, eval (.Name y2 p3) X.env) :: starEach [] X.env := by rfl)
    (hpl : (backTo pos (starEach [.Tuple [.Name y p2, .Name y2 p3] k p] X.env)).any (·.1) = false := by rfl) {pp : Pos} : SE X (.Call (.Name "isinstance" pp) [e, .Tuple [.Name y p2, .Name y2 p3] k p] [] pos) (mIsT ty cs cl ma) :=
  (se_isi2 hC hg hm ha (fun E => pe_bltn (X := X.wish E) (v := .ty n) hgy hmy hv rfl hn hdb) (.ty n) (fun E => pe_bltn (X := X.wish E) (v := .ty n2) hgy2 hmy2 hv2 rfl hn2 hdb2) (.ty n2) he he2 he3 he4 hpl).imp (mIsT_of hB)
theorem se_isC {C : Addr} (hC : ∀ C ∈ cl, InsOk X.K C) (hB : isiB X.K ty cs cl [.ref C] = true) (hg : Gl X "isinstance") (hm : X.mg "isinstance" = none) (ha : SE X e ma) (hgy : Gl X y) (hmy : X.mg y = some (.ref C))
    (hdb : (y == ("__debug__" : Str)) = false := by decide) (he : starEach [e, .Name y p2] X.env = (false, eval e X.env) :: starEach [.Name y p2] X.env := by rfl) (he2 : starEach [.Name y p2] X.env = (false, eval (.Name y p2) X.env) :: starEach [] X.env := by rfl)
    (hpl : (backTo pos (starEach [.Name y p2] X.env)).any (·.1) = false := by rfl) : SE X (.Call (.Name "isinstance" p) [e, .Name y p2] [] pos) (mIsT ty cs cl ma) :=
  (se_isi hC hg hm ha (fun E => pe_glob (X := X.wish E) (v := .ref C) hgy hmy rfl hdb) (.own C) he he2 hpl).imp (mIsT_of hB)
theorem sq_con {x : Str} {d : D} (hg : Gl X x) (h : ConD X.K X.mg x d) (hdb : (x == ("__debug__" : Str)) = false := by decide) : SQ X (.Name x pos) (qC d) := by
  obtain ⟨v, u, h1, h2, h3⟩ := h
  exact sq_glob hg h1 h2 h3 hdb
end
/-! ### exceptions -/
def excsB (K : PySem.W.Frag) (xs : List Addr) : Bool := xs.all fun c => xs.all fun k => decide (PySem.W.exmOne K (.ref c) (.ref k) = some (decide (c = k)))
theorem excsB_ok {K : PySem.W.Frag} {xs : List Addr} (h : excsB K xs = true) {c k : Addr} (hc : c ∈ xs) (hk : k ∈ xs) : PySem.W.exmOne K (.ref c) (.ref k) = some (decide (c = k)) := of_decide_eq_true (List.all_eq_true.mp (List.all_eq_true.mp h c hc) k hk)
def pickT (xs : List Addr) (i : Nat) (c : Addr) (fs : List (Str × D)) (ρ : Env) : List (Addr × MH) → R Fl
  | [] => .exc c fs ρ
  | (k, m) :: r => if xs.contains c = true ∧ xs.contains k = true then (if c = k then m c fs (ρ.set i none) else pickT xs i c fs ρ r) else .bad
theorem pickT_of {K : PySem.W.Frag} {xs : List Addr} (h : excsB K xs = true) {i : Nat} {c : Addr} {fs : List (Str × D)} {ρ : Env} : ∀ {hs : List (Addr × MH)}, pickT xs i c fs ρ hs ≠ .bad → pick K i c fs ρ hs = pickT xs i c fs ρ hs
  | [], _ => rfl
  | (k, m) :: r, nb => by
    unfold pickT at nb ⊢
    by_cases hk : xs.contains c = true ∧ xs.contains k = true
    · rw [if_pos hk] at nb ⊢
      unfold pick
      rw [excsB_ok h (by simpa using hk.1) (by simpa using hk.2)]
      by_cases e : c = k
      · rw [if_pos e, decide_eq_true e]
      · rw [if_neg e] at nb ⊢
        rw [decide_eq_false e]
        exact pickT_of h nb
    · rw [if_neg hk] at nb
      exact absurd rfl nb
def mTryT (xs : List Addr) (i : Nat) (mb : MS) (hs : List (Addr × MH)) : MS := fun ρ => match mb ρ with
  | .exc c fs ρ1 => pickT xs i c fs ρ1 hs
  | r => r
theorem ss_tryT {X : Cx} {np i : Nat} {n : Str} {body : List Stmt} {hd : ExceptHandler} {hds : List ExceptHandler} {l : List (Addr × MH)} {mb : MS} {pos : Pos} {xs : List Addr} (hx : excsB X.K xs = true) (stk : X.stack = X.env :: X.outer) (frm : X.env.frame = some X.env.locals)
    (ndp : X.N.Nodup) (ix : X.N[i]? = some n) (loc : X.env.kindOf n = some .local) (hi : np ≤ i) (hb : ∀ pn xe, SSs (X.tr pn xe) np body mb) (hh : Hds X np i n (hd :: hds) l) : SS X np (.Try body (hd :: hds) [] [] pos) (mTryT xs i mb l) :=
  (ss_try stk frm ndp ix loc hi hb hh).imp fun ρ nb => by
    unfold mTryT at nb ⊢
    unfold mTry
    cases e : mb ρ with
    | ok f ρ1 => rfl
    | bad => rfl
    | exc c fs ρ1 =>
      rw [e] at nb
      exact pickT_of hx nb
def fldB (K : PySem.W.Frag) (xs : List Addr) (f : Str) : Bool := xs.all fun c => xfB K c && decide (PySem.W.findIn K (.ref c) f = some none)
theorem fldB_ok {K : PySem.W.Frag} {xs : List Addr} {f : Str} (h : fldB K xs f = true) {c : Addr} (hc : c ∈ xs) : xfB K c = true ∧ PySem.W.findIn K (.ref c) f = some none := by
  obtain ⟨h1, h2⟩ := ba2 (List.all_eq_true.mp h c hc)
  exact ⟨h1, of_decide_eq_true h2⟩
def mToldT (xs : List Addr) (f k : Str) : MH := fun c fs ρ => if xs.contains c = true then (match fs.lookup f with
  | some d => .ok (.ret (.v (.tup [.str k, d]))) ρ
  | none => .bad) else .bad
theorem mToldT_of {K : PySem.W.Frag} {xs : List Addr} {f k : Str} (h : fldB K xs f = true) : ∀ c fs ρ, mToldT xs f k c fs ρ ≠ .bad → mTold K f k c fs ρ = mToldT xs f k c fs ρ := fun c fs ρ nb => by
  unfold mToldT at nb ⊢
  unfold mTold
  by_cases hc : xs.contains c = true
  · rw [if_pos hc, if_pos (fldB_ok h (by simpa using hc))]
    try (cases fs.lookup f <;> rfl)
  · rw [if_neg hc] at nb
    exact absurd rfl nb
/-! ### == of instances -/
def nfT (cl : List Addr) : D → Bool
  | .ins c _ _ => cl.contains c
  | .tup _ => true
  | _ => false
def eqB (K : PySem.W.Frag) (C : Addr) (cl : List Addr) : Bool := cl.all (fun c => PySem.W.notFirst K C (.ref c)) && PySem.W.notFirst K C (.type "tuple")
theorem nfT_of {K : PySem.W.Frag} {C : Addr} {cl : List Addr} (h : eqB K C cl = true) {d : D} (e : nfT cl d = true) : nfB K C d = true := by
  obtain ⟨h1, h2⟩ := ba2 h
  cases d with
  | tup l => exact h2
  | ins c _ _ => exact List.all_eq_true.mp h1 c (by simpa [nfT] using e)
  | _ => cases e
def eqT (C : Addr) (cl : List Addr) (den : Den) : D → D → Option D := fun a b => match a with
  | .ins c _ _ => if c = C ∧ nfT cl b = true then (match den [.v a, .v b] with
    | .ok (.v (.bl r)) _ => some (.bl r)
    | _ => none) else none
  | _ => none
def neT (C : Addr) (cl : List Addr) (den : Den) : D → D → Option D := fun a b => (eqT C cl den a b).bind fun d => match d with
  | .bl r => some (.bl (!r))
  | _ => none
theorem eqT_of {K : PySem.W.Frag} {C : Addr} {cl : List Addr} (h : eqB K C cl = true) {den : Den} : ∀ a b d, eqT C cl den a b = some d → eqOwn K C den a b = some d := fun a b d e => by
  unfold eqT at e
  unfold eqOwn
  cases a with
  | ins c ns vs =>
    by_cases hc : c = C ∧ nfT cl b = true
    · simp only [if_pos hc] at e
      simp only [if_pos (⟨hc.1, nfT_of h hc.2⟩ : c = C ∧ nfB K C b = true)]
      exact e
    · simp only [if_neg hc] at e
      cases e
  | _ => cases e
section
variable {X : Cx}
theorem opx_eqT {k : Nat} {C : Addr} {cl : List Addr} {den : Den} (h : eqB X.K C cl = true) (F : EqC X.prog X.w X.K X.mg X.base k C den) (hr : Room k X.A) : OpX X (compareOp .Eq) (eqT C cl den) := (opx_own F hr).imp (eqT_of h)
theorem opx_neT {k : Nat} {C : Addr} {cl : List Addr} {den : Den} (h : eqB X.K C cl = true) (F : EqC X.prog X.w X.K X.mg X.base k C den) (hr : Room (k + 1) X.A) (hne : PySem.W.findIn X.K (.ref C) "__ne__" = some (some (.builtin "object.__ne__"))) (hob : PySem.W.subIn X.K (.ref C) (.type "object") = some true) :
    OpX X (compareOp .NotEq) (neT C cl den) := (opx_ownNe F hr hne hob).imp fun a b d e => by
  unfold neT at e
  obtain ⟨d0, h1, h2⟩ := Option.bind_eq_some_iff.mp e
  unfold neOwn
  rw [eqT_of h a b d0 h1]
  exact h2
end
/-! ### list(range(e)) -/
def listRgD : D → Option D
  | .int j => if 0 ≤ j ∧ j ≤ 16777216 then some (.lst (rngD 0 j.toNat)) else none
  | _ => none
end DL

set_option maxRecDepth 100000
set_option maxHeartbeats 1000000
/-! list(range(e)); repr of data; defs that are called where nothing is being shown -/
namespace DL
open PySem PySem.Spec L2
open PyProof.Rows hiding St
section
variable {X : Cx} {a : Expr} {ma : ME} {p p2 pos pos2 : Pos}
theorem rng_rv {K : PySem.W.Frag} {G : Hp} {j : Int} : RVs K G (rngD 0 j.toNat) (rgV 0 j) := by
  have h : ∀ l : List Nat, RVs K G (l.map fun i => D.int (0 + (i : Nat))) (l.map fun i => V.int (0 + (i : Nat))) := fun l => by
    induction l with
    | nil => exact .nil
    | cons x r ih => exact .cons rv_int ih
  have e : (j - 0).toNat = j.toNat := by rw [Int.sub_zero]
  unfold rngD rgV
  rw [e]
  exact h _
theorem se_listRg (hc : X.calm = true) (hg : Gl X "list") (hm : X.mg "list" = none) (hg2 : Gl X "range") (hm2 : X.mg "range" = none) (ha : SE X a ma) (na : starEach [a] X.env = (false, eval a X.env) :: starEach [] X.env := by rfl)
    (nb : starEach [.Call (.Name "range" p2) [a] [] pos2] X.env = (false, eval (.Call (.Name "range" p2) [a] [] pos2) X.env) :: starEach [] X.env := by rfl) :
    SE X (.Call (.Name "list" p) [.Call (.Name "range" p2) [a] [] pos2] [] pos) (mC1 listRgD ma) := by
  refine ET.se (tf := fun Y => tLstRg (tRg1 (wE Y a))) (fun o σ H G own ρ α r Q c nbad hx kk => ?_) fun E => pe_listRg (X := X.wish E) hc hg hm (prg_1 hg2 hm2 pe_w na) nb
  refine ha.we c (R.bind_nb nbad) (Xle.bind.trans hx) fun d ρ1 v H1 G1 own1 e1 c1 x1 r1 => ?_
  unfold mC1 at nbad hx kk
  rw [e1, R.bind_ok] at nbad hx kk
  obtain ⟨d', e3, e4⟩ := opt_nb nbad
  unfold listRgD at e3
  split at e3
  · rename_i j
    split at e3
    · rename_i hj
      cases e3
      have r2 : v = .int j := r1
      refine ⟨j, r2, RgOk.of_le (Int.le_refl 0) hj.2 (by omega) hj.1, fun q hq => ?_⟩
      obtain ⟨G2, own2, c2, x2, rv2⟩ := okd_lst (o := o) (σ := σ) (ρ := ρ1) c1 (l := rngD 0 j.toNat) (xs := rgV 0 j) rng_rv hq
      exact kk _ ρ1 _ _ G2 own2 e4 c2 (x1.trans x2) rv2
    · cases e3
  · cases e3
/-! ### repr -/
def toPyR (d : D) : Option PyData := match d with
  | .dic [] [] => some (.dict [])
  | d => toPy d
def reprD (d : D) : Option D := match toPyR d with
  | some p => if p.showable = true ∧ p.shown.length ≤ sizeLine ∧ p.depth ≤ 50 then some (.str p.shown) else none
  | none => none
def reprL : List D → Option D
  | [d] => reprD d
  | _ => none
theorem repr_reads {s : Shared} {prog : Program} {w : World} {A : Around} {E : Value → Shared → Prop} {Q : Value → Shared → Prop} {u : Value} {p : PyData} {as : List Addr} (r : Reads s.heap u p as) (hs : p.showable = true) (hsm : p.hasDict = true → sysModules ∉ as) (hg : A.guards = some [])
    (hu : A.units + (p.depth + 1) < cLine) (hz : p.shown.length ≤ sizeLine) (hQ : ∀ h' t tk, (∀ b o, s.heap.get? b = some o → h'.get? b = some o) → Q (.str p.shown t) { s with heap := h', toks := tk }) :
    wpAny (model prog w) A (call (.builtin "repr") [u]) Q E s := by
  cases r with
  | none => exact PySem.P.repr_of_none (hQ s.heap _ _ fun _ _ e => e)
  | bool b => exact PySem.P.repr_of_bool (by cases b <;> exact hQ s.heap _ _ fun _ _ e => e)
  | int i t => exact PySem.P.repr_of_int (of_decide_eq_true hs) (hQ s.heap _ _ fun _ _ e => e)
  | str x t => exact PySem.P.repr_of_str (hQ s.heap _ _ fun _ _ e => e) hz
  | list a b c d => exact repr_of_reads' (.list a b c d) hs hsm hg hu (fun _ _ e => e) hQ hz
  | tuple a b c d => exact repr_of_reads' (.tuple a b c d) hs hsm hg hu (fun _ _ e => e) hQ hz
  | dict a b c d e => exact repr_of_reads' (.dict a b c d e) hs hsm hg hu (fun _ _ e => e) hQ hz
end
end DL
namespace DL
open PySem PySem.Spec L2
open PyProof.Rows hiding St
mutual
theorem toPy_nd : ∀ (d : D) (p : PyData), toPy d = some p → p.hasDict = false
  | .non, _, h => by cases h; rfl
  | .bl _, _, h => by cases h; rfl
  | .int _, _, h => by cases h; rfl
  | .str _, _, h => by cases h; rfl
  | .tup l, p, h => by
    unfold toPy at h
    obtain ⟨ps, h1, h2⟩ := Option.map_eq_some_iff.mp h
    subst h2
    show PyData.hasDictAll ps = false
    exact toPys_nd l ps h1
  | .lst l, p, h => by
    unfold toPy at h
    obtain ⟨ps, h1, h2⟩ := Option.map_eq_some_iff.mp h
    subst h2
    show PyData.hasDictAll ps = false
    exact toPys_nd l ps h1
  | .dic _ _, _, h => by unfold toPy at h; cases h
  | .ins _ _ _, _, h => by unfold toPy at h; cases h
theorem toPys_nd : ∀ (l : List D) (ps : List PyData), toPys l = some ps → PyData.hasDictAll ps = false
  | [], ps, h => by unfold toPys at h; cases h; rfl
  | d :: l, ps, h => by
    unfold toPys at h
    split at h
    · rename_i x r h1 h2
      cases h
      show (x.hasDict || PyData.hasDictAll r) = false
      rw [toPy_nd d x h1, toPys_nd l r h2]; rfl
    · cases h
end
theorem dp_py {K : PySem.W.Frag} {G H : Hp} {own : Own} {pins : List (Addr × Obj)} {σ : L2.St} {s : Shared} {Y : Cx} (hK : Y.K = K) (I : Inv Y pins σ H s) (g : Good H G own) {d : D} {v : V} {u : Value} {p : PyData} (rv : RV K G d v) (ru : L2.RelV v u) (e : toPyR d = some p) :
    ∃ as, Reads s.heap u p as ∧ (p.hasDict = true → sysModules ∉ as) := by
  subst hK
  have gen : toPy d = some p → ∃ as, Reads s.heap u p as ∧ (p.hasDict = true → sysModules ∉ as) := fun e => by
    obtain ⟨as, r⟩ := Dp.reads I p v u (RV.dp g d v p rv e) ru
    exact ⟨as, r, fun hd => by rw [toPy_nd d p e] at hd; cases hd⟩
  unfold toPyR at e
  split at e
  · cases e
    obtain ⟨a, kvs, rfl, h1, h2, _⟩ := rv.dic_inv
    obtain rfl : u = .ref a := ru
    have hk : kvs = [] := List.map_eq_nil_iff.mp h2
    subst hk
    obtain ⟨_, hsm, vs, kv, o, es, ep, ho, hx, hd, _, hp, _⟩ := (g.rd a _ h1).ok I.hok
    have hv : vs = [] := by cases kv; rfl
    subst hv
    have he : es.toList = [] := by
      cases q : es.toList with
      | nil => rfl
      | cons x r => rw [q] at hp; cases hp
    refine ⟨_, Reads.dict (kvs := []) (as := []) (bs := []) ho hx.1 hd (by rw [he]; exact .nil) (by rw [he]; exact .nil), fun _ z => ?_⟩
    have z2 : sysModules = a := by simpa using z
    subst z2
    simp at hsm
  · exact gen e
section
variable {X : Cx}
/-- the reading of repr(x) -/
def rRepr (X : Cx) : List V → Hp → VK → Prop := fun vs H Q => ∃ G own d v p, vs = [v] ∧ Good H G own ∧ RV X.K G d v ∧ toPyR d = some p ∧ p.showable = true ∧ p.shown.length ≤ sizeLine ∧ p.depth ≤ 50 ∧ Q (.str p.shown) H
theorem cr_repr (hg : X.A.guards = some []) (hu : X.A.units + 100 < cLine) : CallR X (.builtin "repr") (rRepr X) := by
  intro pins s σ H xs us Q I r h
  obtain ⟨G, own, d, v, p, rfl, g, rv, e, h1, h2, h3, q⟩ := h
  obtain ⟨u, rfl, ru⟩ := vals1 r
  obtain ⟨as, hr, hsm⟩ := dp_py rfl I g rv ru e
  refine repr_reads hr h1 hsm hg (by omega) h2 fun h' t tk hk => ⟨.str p.shown, H, ?_, ⟨t, rfl⟩, q⟩
  exact I.kept hk
theorem cx_repr (hg : X.A.guards = some []) (hu : X.A.units + 100 < cLine) : CallX X (.builtin "repr") reprL := by
  intro E o σ H G own ρ l d vs c hx h
  unfold reprL at h
  split at h
  · rename_i d0
    unfold reprD at h
    split at h
    · rename_i p e
      split at h
      · rename_i hp
        cases h
        obtain ⟨v, rfl, rv⟩ := hx.one
        exact ⟨_, cr_repr (X := X.wish E) hg hu, G, own, d0, v, p, rfl, c.good, rv, e, hp.1, hp.2.1, hp.2.2, okd_pure c rv_str⟩
      · cases h
    · cases h
  · cases h
end
end DL
/-! ### defs that are called where nothing is being shown (repr wants to know it) -/
namespace DL
open PySem PySem.Spec L2
open PyProof.Rows hiding St
structure FnOkG (P : Program) (w : World) (K : PySem.W.Frag) (mg : Str → Option Value) (base : Heap) (CX : CXT) (k : Nat) (f : Addr) (fd : FuncData) (ps : List Str) (sp : Sp) : Prop where
  len : ∀ vs H Q E, sp vs H Q E → vs.length = ps.length
  run : ∀ (B : Around) (out : List PySem.Env) (s : Shared) (H : Hp) (gs : Args) (us : List Value) (vs : List V) (Q : VK) (E : XK), B.guards = some [] → Room k B → Env0 P w K mg base B out s H → BindsTo s fd gs (ps.zip us) → Vals vs us → sp vs H Q E →
    codeAny (model P w) B (.call (.ref f) gs) (CR CX out P w H s Q E) s
theorem FnOkG.of {P : Program} {w : World} {K : PySem.W.Frag} {mg : Str → Option Value} {base : Heap} {CX : CXT} {k : Nat} {f : Addr} {fd : FuncData} {ps : List Str} {sp : Sp} (F : FnOk P w K mg base CX k f fd ps sp) : FnOkG P w K mg base CX k f fd ps sp :=
  ⟨F.len, fun B out s H gs us vs Q E _ hr => F.run B out s H gs us vs Q E hr⟩
section
variable {P : Program} {w : World} {K : PySem.W.Frag} {mg : Str → Option Value} {base : Heap} {CX : CXT} {k : Nat} {f : Addr} {name qual : Str} {params : Arguments} {body : List Stmt} {scope : Scope} {dV kV doc pm cdv ct oc : Value} {an od : Option Addr} {osl : Array (Option Value)} {N ps : List Str} {sp : Sp}
theorem gd_deeper {B : Around} (h : B.guards = some []) (e : PySem.Env) : (B.deeper e).guards = some [] := h
theorem fn_ofG (lk : K.lookup f = some ⟨oc, od, .func (PySem.W.fnOf name qual params body scope dV kV doc pm an cdv ct), osl⟩) (hcd : PySem.W.codeIn K cdv qual = true) (S : FnScope N ps scope) (len : ∀ vs H Q E, sp vs H Q E → vs.length = ps.length)
    (hb : ∀ (B : Around) (out : List PySem.Env) (s : Shared) (H : Hp) (vs : List V) (Q : VK) (E : XK), B.guards = some [] → Room k (B.deeper (envOfC qual scope s.heap.objs.size f cdv)) → sp vs H Q E →
      ∃ t, PSs (cxOf CX P w K mg base N qual scope f cdv B out s H E) body t ∧ t { nx := fun _ H' => Q .non H', rt := Q } (start N vs) H) :
    FnOkG P w K mg base CX (k + 1) f (PySem.W.fnOf name qual params body scope dV kV doc pm an cdv ct) ps sp where
  len := len
  run := by
    intro B out s H gs us vs Q E gd hr e0 bd r want
    have size := len _ _ _ _ want
    have inK : K.In s.heap := e0.mod.kin.keeps fun b o z => (e0.bs b o z).1
    have free : s.heap.NoLimit := e0.mod.nolimit.keeps fun b o z => (e0.bs b o z).1
    have sorts : ∀ y ∈ ps.zip us, scope.names.lookup y.1 = some .local ∨ (scope.names.lookup y.1 = some .cell ∧ ((cellsFrom (s.heap.objs.size + 1) scope.names []).lookup y.1).isSome = true) := by
      rintro ⟨n, v⟩ hy
      rcases S.par n (List.of_mem_zip hy).1 with z | z
      · exact Or.inl z
      · exact Or.inr ⟨z, PySem.W.cellsFrom_some _ _ _ (Or.inl z)⟩
    refine codeAny_call_function hr.depth (inK _ _ lk) rfl S.co S.gen rfl (PySem.W.codeRec_of inK hcd) (bd _ _ _ _ ?_)
    refine wpAny_newFunctionEnv_cells S.kind sorts fun env he s1 x => ?_
    subst he
    refine ⟨free.keeps x.toInCall.keep, codeAny_func ?_⟩
    obtain ⟨t, ht, hq⟩ := hb B out s H vs Q E gd (hr.deeper _) want
    have I1 : Inv (cxOf CX P w K mg base N qual scope f cdv B out s H E) [] (start N vs) H s1 := inv_start S hr.hd e0 size r x
    refine wpAny_mono (ht.run [] s1 (start N vs) H _ I1 hq) (fun fl s' hs => ?_) fun e s' hs => hs
    have done : ∀ {σ' : L2.St} {H' : Hp} {v : V} {u : Value}, Inv (cxOf CX P w K mg base N qual scope f cdv B out s H E) [] σ' H' s' → RelV v u → Q v H' → CE out P w H s Q u s' := by
      intro σ' H' v u J rv q
      exact ⟨v, H', J.os, J.bare, J.base, J.hok, rv, q⟩
    match fl, hs with
    | .ret u, ⟨v, σ', H', J, rv, q⟩ => exact done J rv q
    | .next, ⟨σ', H', J, q⟩ => exact done (v := V.non) (u := Value.none) J rfl q
    | .brk, ⟨_, _, _, q⟩ => exact q.elim
    | .cont, ⟨_, _, _, q⟩ => exact q.elim
end
/-- a def of the module, by data, called where nothing is being shown -/
structure FnG (P : Program) (w : World) (K : PySem.W.Frag) (mg : Str → Option Value) (base : Heap) (k : Nat) (x : Str) (np : Nat) (den : Den) : Prop where
  fn : ∃ f fd ps, FnOkG P w K mg base (L2.CX P w) k f fd ps (spD K np den) ∧ mg x = some (.ref f) ∧ PySem.W.keepIn K (.ref f) = true ∧ Binds K fd ps []
section
variable {X : Cx} {o : Orig} {σ : L2.St} {H G : Hp} {own : Own} {ρ : Env} {e : Expr} {es : List Expr} {mas : Env → R (List Ar)} {pos p : Pos} {x : Str}
theorem pe_callG {CX : CXT} {k : Nat} {f : Addr} {fd : FuncData} {ps : List Str} {sp : Sp} {E : L2.St → XK} {t : TA} (gd : X.A.guards = some []) (F : FnOkG X.prog X.w X.K X.mg X.base CX k f fd ps sp) (hr : Room k X.A) (hg : Gl X x) (hm : X.mg x = some (.ref f)) (hk : PySem.W.keepIn X.K (.ref f) = true)
    (hb : Binds X.K fd ps []) (hx : ∀ σ, PassesAt CX X σ (E σ)) (ha : PA X (e :: es) t) (hdb : (x == ("__debug__" : Str)) = false := by decide) (he : starEach (e :: es) X.env = (false, eval e X.env) :: starEach es X.env := by rfl)
    (hpl : (backTo pos (starEach es X.env)).any (·.1) = false := by rfl) : PE X (.Call (.Name x p) (e :: es) [] pos) (tCallS sp E t) := by
  constructor
  intro pins s σ H Q I h
  refine wpAny_Call_Name_kw (ld_glob I hg hm ?_ hdb)
  refine PySem.W.callWith_K (h₀ := X.base) I.ok.mod.kin hk (thn (ha.run pos pins s σ H _ I h) ?_) he hpl
  rintro us s1 ⟨vs, H1, I1, r, q⟩
  refine ⟨I1.kIn, ?_⟩
  have size : us.length = ps.length := by
    rw [← r.length]
    exact F.len _ _ _ _ q
  have bd := hb s1 us I1.kIn (by simpa using size)
  rw [List.append_nil] at bd
  refine wpAny_call (codeAny_mono (F.run X.A X.stack s1 H1 ⟨us, []⟩ us vs Q (E σ) gd hr I1.env0 bd r q) ?_)
  intro rr s' hq
  match rr, hq with
  | .error z, hq => exact hx σ pins H1 s1 z s' I1 hq
  | .ok (.ret u), hq => exact I1.after hq
  | .ok .next, hq => exact hq.elim
  | .ok .brk, hq => exact hq.elim
  | .ok .cont, hq => exact hq.elim
theorem so_callG {k j np : Nat} {den : Den} (gd : X.A.guards = some []) (F : FnG X.prog X.w X.K X.mg X.base k x np den) (hr : Room j X.A) (hk : k ≤ j) (hg : Gl X x) (ha : SAr X (e :: es) mas) (hdb : (x == ("__debug__" : Str)) = false := by decide)
    (he : starEach (e :: es) X.env = (false, eval e X.env) :: starEach es X.env := by rfl) (hpl : (backTo pos (starEach es X.env)).any (·.1) = false := by rfl) : SO X (.Call (.Name x p) (e :: es) [] pos) (mCall np den mas) := by
  obtain ⟨f, fd, ps, F1, hm, hkp, hb⟩ := F.fn
  refine SO.of fun o σ H G own ρ c nb => ⟨_, pe_callG (X := Cx.to X o _) gd F1 (hr.mono hk) hg hm hkp hb pass_to pa_w hdb he hpl, ?_⟩
  refine ha o σ H G own ρ C _ _ c (R.bind_nb nb) Xle.bind fun l ρ1 vs H1 G1 own1 e1 c1 x1 r1 => ?_
  unfold mCall at nb ⊢
  rw [e1, R.bind_ok] at nb ⊢
  by_cases hn : l.length = np
  · rw [if_pos hn] at nb ⊢
    exact sp_call c1 (r1 .non) hn nb (fun c' ρ' v H' G' own' e2 c2 x2 rc => ⟨c', ρ', G', own', e2, c2, x1.trans x2, rc⟩) fun cls d H' w => w
  · rw [if_neg hn] at nb; exact absurd rfl nb
end
end DL
namespace DL
open PySem PySem.Spec L2
open PyProof.Rows hiding St
theorem fn_denG {P : Program} {w : World} {K : PySem.W.Frag} {mg : Str → Option Value} {base : Heap} {k : Nat} {f : Addr} {name qual : Str} {params : Arguments} {body : List Stmt} {scope : Scope} {dV kV doc pm cdv ct oc : Value} {an od : Option Addr}
    {osl : Array (Option Value)} {N ps : List Str} {m : MS} (lk : K.lookup f = some ⟨oc, od, .func (PySem.W.fnOf name qual params body scope dV kV doc pm an cdv ct), osl⟩) (hcd : PySem.W.codeIn K cdv qual = true) (S : FnScope N ps scope)
    (hbody : ∀ (A : Around) (outer : List PySem.Env) (s : Shared) (H : Hp) (E : XK), A.guards = some [] → Room k (A.deeper (envOfC qual scope s.heap.objs.size f cdv)) → SSs (cxOf (L2.CX P w) P w K mg base N qual scope f cdv A outer s H E) ps.length body m) :
    FnOkG P w K mg base (L2.CX P w) (k + 1) f (PySem.W.fnOf name qual params body scope dV kV doc pm an cdv ct) ps (spD K ps.length (denOf N.length ps.length m)) := by
  refine fn_ofG lk hcd S (fun vs H Q E h => h.1) fun A outer s H vs Q E gd hr hsp => ?_
  obtain ⟨hl, cs, G, own, rcs, good, nb, kq, ke⟩ := hsp
  have hps : ps.length ≤ N.length := by have := congrArg List.length S.pre; rw [List.length_take] at this; omega
  -- the context
  generalize hX : cxOf (L2.CX P w) P w K mg base N qual scope f cdv A outer s H E = X at *
  have XK' : X.K = K := by rw [← hX]; rfl
  have hb := hbody A outer s H E gd hr
  rw [hX] at hb
  have tk : Takes X (fun cls d _ H => E cls d H) := by
    rw [← hX]
    exact takes_of rfl rfl rfl rfl
  let o : Orig := ⟨H, G, own, vs⟩
  have c0 : Cfg X.K o (L2.start N vs) H G own (cs.map some ++ List.replicate (N.length - cs.length) none) := by
    rw [XK']
    refine ⟨fun i c e => ?_, good, Stp.refl, fun j v e => ?_⟩
    · have hi : i < cs.length := by
        by_cases z : i < cs.length
        · exact z
        · rw [List.getElem?_append_right (by simpa using z), List.getElem?_replicate] at e
          split at e <;> cases e
      rw [List.getElem?_append_left (by simpa using hi), List.getElem?_map] at e
      obtain ⟨c1, e1, e2⟩ := Option.map_eq_some_iff.mp e
      cases e2
      obtain ⟨v, h1, h2⟩ := rcs.2 i c e1
      refine ⟨v, ?_, h2⟩
      unfold L2.start
      rw [List.getElem?_append_left (by rw [List.length_map, ← rcs.1]; exact hi), List.getElem?_map, h1]; rfl
    · unfold L2.start
      have hj : j < vs.length := (List.getElem?_eq_some_iff.mp e).1
      rw [List.getElem?_append_left (by simpa using hj), List.getElem?_map, e]; rfl
  have nbm : m (cs.map some ++ List.replicate (N.length - cs.length) none) ≠ .bad := fun z => nb (by unfold denOf; rw [z])
  refine ⟨_, pss_w, ?_⟩
  have h := hb o (L2.start N vs) H G own _ hl c0 nbm
  refine wSs_mono (X := X) (E := _) (E' := X.xe) h (fun σ' H' q => ?_) (fun v H' q => ?_) (fun σ' H' q => ?_) (fun σ' H' q => ?_) fun u s' x => tk u s' (XE.imp (fun cls d σ' H' w' => ?_) x)
  · obtain ⟨ρ', G', own', e, c'⟩ := q
    rw [XK'] at c'
    refine kq (.v .non) (ρ'.take ps.length) σ' _ H' G' own' (by unfold denOf; rw [e]) (c'.forget _ fun i c h => (take_some h).1) (rv_non (K := K) (G := G'))
  · obtain ⟨c, ρ', σ', G', own', e, c', r'⟩ := q
    rw [XK'] at c' r'
    exact kq c (ρ'.take ps.length) σ' _ H' G' own' (by unfold denOf; rw [e]) (c'.forget _ fun i c h => (take_some h).1) r'
  · obtain ⟨ρ', G', own', e, c'⟩ := q
    exact absurd (by unfold denOf; rw [e]) nb
  · obtain ⟨ρ', G', own', e, c'⟩ := q
    exact absurd (by unfold denOf; rw [e]) nb
  · obtain ⟨cl, fs, ρ', e, e2, dd, vf, G', own', e3, e4, e5, c', e6, e7, e8⟩ := w'
    rw [XK'] at e5 c'
    exact ke cls d σ' H' ⟨cl, fs, ρ'.take ps.length, by unfold denOf; rw [e], e2, dd, vf, G', own', e3, e4, e5, c'.forget _ (fun i c h => (take_some h).1), e6, e7, e8⟩
end DL

set_option maxRecDepth 100000
set_option maxHeartbeats 1000000
/-! suites: return (k, e.f), return (k, repr(e.f)), k a written text or number -/
namespace DL
open PySem PySem.Spec L2
open PyProof.Rows hiding St
/-- a written constant -/
inductive IsK : Expr → D → Prop
  | str {x : Str} {j : Nat} {p : Pos} : IsK (.Constant (.str x) j p) (.str x)
  | int {x : Int} {j : Nat} {p : Pos} : IsK (.Constant (.int x) j p) (.int x)
theorem IsK.pe {e : Expr} {d : D} (h : IsK e d) (Y : Cx) : PE Y e (tC (vD d)) := by
  cases h with
  | str => exact pe_str
  | int => exact pe_int
theorem IsK.rv {e : Expr} {d : D} (h : IsK e d) {K : PySem.W.Frag} {G : Hp} : RV K G d (vD d) := by
  cases h with
  | str => exact rv_str
  | int => exact rv_int
section
variable {X : Cx} {o : Orig} {σ : St} {H G : Hp} {own : Own} {ρ : Env} {n f : Str} {E0 E : Expr} {k d : D} {i j np : Nat} {x1 : Nat} {p1 p2 p3 p4 p5 p6 p7 : Pos} {r : R Fl} {xs : List Addr}
theorem ret_pairK (hk : IsK E0 k) (he : wE X E σ H (fun v H' => ∃ G' own', Cfg X.K o σ H' G' own' ρ ∧ Ext G G' ∧ RV X.K G' d v)) (hr : r = .ok (.ret (.v (.tup [k, d]))) ρ)
    (h1 : starEach [E0, E] X.env = (false, eval E0 X.env) :: starEach [E] X.env) (h2 : starEach [E] X.env = (false, eval E X.env) :: starEach [] X.env) :
    wSs X [.Return (some (.Tuple [E0, E] x1 p2)) p3] (gone i (En X.K o r)) σ H := by
  refine .sh fun pins s I => ?_
  refine (pss_one (ps_ret (pe_tupP (pa_cons (hk.pe X) (pa_cons (pe_w (Y := X)) pa_nil h2) h1)))).run pins s σ H _ I ?_
  refine .sh fun pins2 s2 I2 => ?_
  refine thn (he.go pins2 s2 I2) fun u s3 ⟨v, H', I3, rv, G', own', c', x', rd⟩ => ⟨v, H', I3, rv, show _ ∧ _ from ⟨by rw [sizeLine_eq]; simp, fun p ob hp ho => ?_⟩⟩
  obtain ⟨G2, own2, c2, x2, rv2⟩ := okd_tup (o := o) (σ := σ) (ρ := ρ) c' (l := [k, d]) (xs := [vD k, v]) (.cons (hk.rv (G := G')) (.cons rd .nil)) hp ho
  exact ⟨_, ρ, σ, G2, own2, hr, c2, rv2⟩
/-- return (k, e.f) -/
def hTold (xs : List Addr) (f : Str) (k : D) : MH := fun c fs ρ => if xs.contains c = true then (match fs.lookup f with
  | some d => .ok (.ret (.v (.tup [k, d]))) ρ
  | none => .bad) else .bad
/-- return (k, repr(e.f)) -/
def hRepr (xs : List Addr) (f : Str) (k : D) : MH := fun c fs ρ => if xs.contains c = true then (match (fs.lookup f).bind reprD with
  | some d => .ok (.ret (.v (.tup [k, d]))) ρ
  | none => .bad) else .bad
theorem hc_tell (hk : IsK E0 k) (hF : fldB X.K xs f = true) (hN : X.N[i]? = some n) (hv : Vis X.env.scope n) (hd : (n == ("__debug__" : Str)) = false := by decide) (hcd : (n == ("__classdict__" : Str)) = false := by decide)
    (hb : attributeBase (.Name n p4) f X.env (eval (.Name n p4) X.env) = eval (.Name n p4) X.env := by rfl)
    (h1 : starEach [E0, .Attribute (.Name n p4) f p5] X.env = (false, eval E0 X.env) :: starEach [.Attribute (.Name n p4) f p5] X.env := by rfl)
    (h2 : starEach [.Attribute (.Name n p4) f p5] X.env = (false, eval (.Attribute (.Name n p4) f p5) X.env) :: starEach [] X.env := by rfl) :
    HC X np i [.Return (some (.Tuple [E0, .Attribute (.Name n p4) f p5] x1 p2)) p3] (hTold xs f k) := by
  intro a oe cls d pn hz hf o σ H G own ρ c fs dd vf hn ec ed hdd xf ho hg ha hs cf nb
  unfold hTold at nb ⊢
  by_cases hc : xs.contains c = true
  · rw [if_pos hc] at nb ⊢
    obtain ⟨hc1, hc2⟩ := fldB_ok hF (c := c) (by simpa using hc)
    cases el : fs.lookup f with
    | none => rw [el] at nb; exact absurd rfl nb
    | some dv =>
      obtain ⟨v, e1, e2⟩ := lookup_rel xf el
      refine ret_pairK (X := X.suite a ((a, oe) :: pn)) (G := G) (d := dv) hk (.sh fun pins s I => ?_) rfl h1 h2
      refine (pe_xf (X := X) (xfB_ok hc1) hc2 hz hf (pe_var (X := X.suite a ((a, oe) :: pn)) (i := i) hN hv hd hcd) hb).run pins s σ H _ I ?_
      exact ⟨.ref a, hs, rfl, ec, dd, vf, v, ed, hdd, e1, G, own, cf, Ext.rfl', e2⟩
  · rw [if_neg hc] at nb
    exact absurd rfl nb
theorem hc_tellR (gd : X.A.guards = some []) (hu : X.A.units + 100 < cLine) (hk : IsK E0 k) (hF : fldB X.K xs f = true) (hN : X.N[i]? = some n) (hv : Vis X.env.scope n) (hgl : Gl X "repr") (hmg : X.mg "repr" = none) (hd : (n == ("__debug__" : Str)) = false := by decide) (hcd : (n == ("__classdict__" : Str)) = false := by decide)
    (hb : attributeBase (.Name n p4) f X.env (eval (.Name n p4) X.env) = eval (.Name n p4) X.env := by rfl)
    (h1 : starEach [E0, .Call (.Name "repr" p6) [.Attribute (.Name n p4) f p5] [] p7] X.env = (false, eval E0 X.env) :: starEach [.Call (.Name "repr" p6) [.Attribute (.Name n p4) f p5] [] p7] X.env := by rfl)
    (h2 : starEach [.Call (.Name "repr" p6) [.Attribute (.Name n p4) f p5] [] p7] X.env = (false, eval (.Call (.Name "repr" p6) [.Attribute (.Name n p4) f p5] [] p7) X.env) :: starEach [] X.env := by rfl)
    (h3 : starEach [.Attribute (.Name n p4) f p5] X.env = (false, eval (.Attribute (.Name n p4) f p5) X.env) :: starEach [] X.env := by rfl) (hpl : (backTo p7 (starEach [] X.env)).any (·.1) = false := by rfl) :
    HC X np i [.Return (some (.Tuple [E0, .Call (.Name "repr" p6) [.Attribute (.Name n p4) f p5] [] p7] x1 p2)) p3] (hRepr xs f k) := by
  intro a oe cls d pn hz hf o σ H G own ρ c fs dd vf hn ec ed hdd xf ho hg ha hs cf nb
  unfold hRepr at nb ⊢
  by_cases hc : xs.contains c = true
  · rw [if_pos hc] at nb ⊢
    obtain ⟨hc1, hc2⟩ := fldB_ok hF (c := c) (by simpa using hc)
    cases el : fs.lookup f with
    | none => rw [el] at nb; exact absurd rfl nb
    | some dv =>
      obtain ⟨v, e1, e2⟩ := lookup_rel xf el
      cases er : reprD dv with
      | none => rw [el, Option.bind_some, er] at nb; exact absurd rfl nb
      | some rd =>
        rw [Option.bind_some, er]
        refine ret_pairK (X := X.suite a ((a, oe) :: pn)) (G := G) (d := rd) hk (.sh fun pins s I => ?_) rfl h1 h2
        refine (pe_callB (X := X.suite a ((a, oe) :: pn)) (cr_repr (X := X.suite a ((a, oe) :: pn)) gd hu) hgl hmg (id := "repr") (by rfl) (pa_cons (pe_xf (X := X) (xfB_ok hc1) hc2 hz hf (pe_var (X := X.suite a ((a, oe) :: pn)) (i := i) hN hv hd hcd) hb) pa_nil h3) (by decide) (by decide) h3 hpl).run pins s σ H _ I ?_
        refine ⟨.ref a, hs, rfl, ec, dd, vf, v, ed, hdd, e1, ?_⟩
        unfold reprD at er
        split at er
        · rename_i p e
          split at er
          · rename_i hp
            cases er
            exact ⟨G, own, dv, v, p, rfl, cf.good, e2, e, hp.1, hp.2.1, hp.2.2, G, own, cf, Ext.rfl', rv_str⟩
          · cases er
        · cases er
  · rw [if_neg hc] at nb
    exact absurd rfl nb
end
end DL

set_option maxRecDepth 100000
set_option maxHeartbeats 4000000
namespace Hx
open PySem PySem.W PySem.Calls PyProof.Rows

/-! ### what the scheduler comes to, up to what is forgotten -/
def Rch (p : Program) (w : World) (s : Shared) (t : Thread) (s' : Shared) (t' : Thread) : Prop :=
  ∀ a b, a.forget = s.forget → b.forget = t.forget → ∃ n a' b', schedN (denote table) p w n (.single a b) = .running (.single a' b') ∧ a'.forget = s'.forget ∧ b'.forget = t'.forget
section
variable {p : Program} {w : World}
theorem sched_add {den : Code → Sem Fin} : ∀ (n m : Nat) (c c' : Config) (r : SRun), schedN den p w n c = .running c' → schedN den p w m c' = r → schedN den p w (n + m) c = r
  | 0, m, c, c', r, h, k => by
    have e : SRun.running c = SRun.running c' := h
    injection e with e
    rw [Nat.zero_add, e]; exact k
  | n + 1, m, c, c', r, h, k => by
    rw [Nat.add_right_comm]
    unfold schedN at h ⊢
    cases e : sstep den p w c with
    | go c2 => rw [e] at h; exact sched_add n m c2 c' r h k
    | halt o s => rw [e] at h; cases h
theorem Rch.refl (s : Shared) (t : Thread) : Rch p w s t s t := fun a b ha hb => ⟨0, a, b, rfl, ha, hb⟩
theorem Rch.trans {s s1 s2 : Shared} {t t1 t2 : Thread} (x : Rch p w s t s1 t1) (y : Rch p w s1 t1 s2 t2) : Rch p w s t s2 t2 := fun a b ha hb => by
  obtain ⟨n, a1, b1, e1, ha1, hb1⟩ := x a b ha hb
  obtain ⟨m, a2, b2, e2, ha2, hb2⟩ := y a1 b1 ha1 hb1
  exact ⟨n + m, a2, b2, sched_add n m _ _ _ e1 e2, ha2, hb2⟩
theorem Rch.to {s s1 s2 : Shared} {t t1 t2 : Thread} (x : Rch p w s t s1 t1) (e1 : s1.forget = s2.forget) (e2 : t1.forget = t2.forget) : Rch p w s t s2 t2 := fun a b ha hb => by
  obtain ⟨n, a1, b1, e, ha1, hb1⟩ := x a b ha hb
  exact ⟨n, a1, b1, e, ha1.trans e1, hb1.trans e2⟩
theorem heap_forget {s s' : Shared} (e : s.forget = s'.forget) : s.heap = s'.heap := by
  show s.forget.heap = s'.forget.heap
  rw [e]
theorem asleep_forget {s s' : Shared} (e : s.forget = s'.forget) (h : s'.asleep) : s.asleep := Shared.asleep_of_life (by rw [heap_forget e]) h
theorem Rch.step {s s' : Shared} {t t' : Thread} (hs : step (denote table) p w s t = .go s' t') (hc : t.calm = true) (hz : s.asleep) : Rch p w s t s' t' := fun a b ha hb => by
  have e := step_same (denote table) p w (s₁ := a) (s₂ := s) (t₁ := b) (t₂ := t) ha hb
  rw [hs] at e
  have hcb : b.calm = true := by rw [← Thread.calm_forget b, hb, Thread.calm_forget]; exact hc
  cases q : PySem.step (denote table) p w a b with
  | halt o r => rw [q] at e; cases e
  | go a' b' =>
    rw [q] at e
    simp only [Step.forget] at e
    injection e with e1 e2
    refine ⟨1, a', b', ?_, e1, e2⟩
    rcases sstep_single (denote table) p w a b hcb (asleep_forget ha hz) with z | z
    · show (match sstep (denote table) p w (.single a b) with | .go c' => SRun.running c' | .halt o s => .halted o s) = _
      rw [z, q] <;> rfl
    · rw [q] at z; cases z
theorem asleep_step {s s' : Shared} {t t' : Thread} (hs : step (denote table) p w s t = .go s' t') (hz : s.asleep) : s'.asleep := Shared.asleep_of_life (step_life (denote table) p w s s' t t' hs) hz
theorem Rch.stepI {s s' : Shared} {t t' : Thread} (hs : PySem.stepI (denote table) p w s t = .go s' t') (hz : s.asleep) : Rch p w s t s' t' ∧ s'.asleep := by
  cases hl : t.loud with
  | true => rw [stepI_loud (denote table) p w hl] at hs; cases hs
  | false =>
    rw [stepI_quiet (denote table) p w hl] at hs
    have hc : t.calm = true := by
      rw [Thread.calm_eq, hl]
      cases hr : t.refused with
      | false => rfl
      | true =>
        obtain ⟨what, e⟩ := stepK_refused (denote table) p w (s := s) hr
        rw [hs] at e; cases e
    have e := stepK_forget (denote table) p w s t
    rw [hs] at e
    cases q : PySem.step (denote table) p w s t with
    | halt o r => rw [q] at e; cases e
    | go s2 t2 =>
      rw [q] at e
      simp only [Step.forget] at e
      injection e with e1 e2
      exact ⟨(Rch.step q hc hz).to e1.symm e2.symm, asleep_forget e1 (asleep_step q hz)⟩
theorem Rch.comes : ∀ (n : Nat) {s s' : Shared} {t t' : Thread}, runNI (denote table) p w n s t = .running s' t' → s.asleep → Rch p w s t s' t' ∧ s'.asleep
  | 0, s, s', t, t', h, hz => by
    have e : Run.running s t = Run.running s' t' := h
    injection e with e1 e2
    subst e1 e2
    exact ⟨Rch.refl _ _, hz⟩
  | n + 1, s, s', t, t', h, hz => by
    unfold runNI at h
    cases q : PySem.stepI (denote table) p w s t with
    | halt o r => rw [q] at h; cases h
    | go s2 t2 =>
      rw [q] at h
      obtain ⟨x, hz2⟩ := Rch.stepI q hz
      obtain ⟨y, hz3⟩ := Rch.comes n h hz2
      exact ⟨x.trans y, hz3⟩

/-! ### a run over the tree, by the kernel -/
/-- m steps -/
def goP (st : SharedT → Thread → Option (SharedT × Thread)) : Nat → SharedT → Thread → Option (SharedT × Thread)
  | 0, s, t => some (s, t)
  | m + 1, s, t => match t.calm with
    | false => none
    | true => match st s t with
      | some (s', t') => HandSHeadRun.frS s' fun s' => goP st m s' t'
      | none => none
theorem goP_ok : ∀ (m : Nat) {s s' : SharedT} {t t' : Thread}, goP (stepT (denote table) p w) m s t = some (s', t') → s.abs.asleep → Rch p w s.abs t s'.abs t' ∧ s'.abs.asleep
  | 0, s, s', t, t', h, hz => by
    have e : some (s, t) = some (s', t') := h
    injection e with e
    injection e with e1 e2
    subst e1 e2
    exact ⟨Rch.refl _ _, hz⟩
  | m + 1, s, s', t, t', h, hz => by
    unfold goP at h
    cases hc : t.calm with
    | false => rw [hc] at h; cases h
    | true =>
      rw [hc] at h
      cases hs : stepT (denote table) p w s t with
      | none => simp only [hs] at h; cases h
      | some r =>
        obtain ⟨s2, t2⟩ := r
        simp only [hs, HandSHeadRun.frS_eq] at h
        have q := stepT_spec hs
        have x := Rch.step q hc hz
        obtain ⟨y, hz3⟩ := goP_ok m h (asleep_step q hz)
        exact ⟨x.trans y, hz3⟩
end

/-! ### a part of a run, by what it promises -/
section
open Sem (wp)
variable {M : Model} {α : Type}
theorem sub_comes {G : Ctx} {st : List Frame} (hf : G.Fits st) (K : α → Sem Fin) (H : Value → Sem Fin) (t : Sem α) : ∀ (Q : α → Pos → Shared → Prop) (p : Pos) (s : Shared),
    wp M G t Q (fun _ _ _ => False) p s → ∃ s' p' a, Comes M s ⟨t.wrap K H id id, G.code, p, st⟩ s' ⟨K a, G.code, p', st⟩ ∧ Q a p' s' := by
  induction t with
  | pure a => exact fun Q p s h => ⟨s, p, a, Comes.refl _ _, h⟩
  | raise e => exact fun Q p s h => h.elim
  | unsupported z => exact fun Q p s h => h.elim
  | finish z => exact fun Q p s h => h.elim
  | register a k hi => exact fun Q p s h => h.elim
  | yield v g l k hi => exact fun Q p s h => h.elim
  | fork c k hi => exact fun Q p s h => h.elim
  | await a f d l k hi => exact fun Q p s h => h.elim
  | rule g k hi =>
    intro Q p s h
    obtain ⟨x, y, z, r, q⟩ := hi () Q p s h
    exact ⟨x, y, z, Comes.step (step_rule ..) r, q⟩
  | «at» p0 k hi =>
    intro Q p s h
    obtain ⟨x, y, z, r, q⟩ := hi () Q p0 s h
    exact ⟨x, y, z, Comes.step (step_at ..) r, q⟩
  | load a part k hi =>
    intro Q p s h
    obtain ⟨o, ho, h⟩ := h
    obtain ⟨x, y, z, r, q⟩ := hi o Q p s h
    exact ⟨x, y, z, Comes.step (step_load _ _ _ _ _ _ _ ho) r, q⟩
  | update a part f k hi =>
    intro Q p s h
    obtain ⟨ha, h⟩ := h
    obtain ⟨x, y, z, r, q⟩ := hi () Q p _ h
    exact ⟨x, y, z, Comes.step (step_update _ _ _ _ _ _ _ _ ha) r, q⟩
  | loadIfAlive a k hi =>
    intro Q p s h
    obtain ⟨x, y, z, r, q⟩ := hi _ Q p s h
    exact ⟨x, y, z, Comes.step (step_loadIfAlive ..) r, q⟩
  | point l k hi =>
    intro Q p s h
    obtain ⟨x, y, z, r, q⟩ := hi () Q p s h
    exact ⟨x, y, z, Comes.step (step_point ..) r, q⟩
  | alloc o k hi =>
    intro Q p s h
    obtain ⟨x, y, z, r, q⟩ := hi _ Q p _ h
    exact ⟨x, y, z, Comes.step (step_alloc ..) r, q⟩
  | fresh k hi =>
    intro Q p s h
    obtain ⟨x, y, z, r, q⟩ := hi _ Q p _ h
    exact ⟨x, y, z, Comes.step (step_fresh ..) r, q⟩
  | ask k hi =>
    intro Q p s h
    obtain ⟨x, y, z, r, q⟩ := hi _ Q p s h
    exact ⟨x, y, z, Comes.step (step_ask ..) r, q⟩
  | choose src n k hi =>
    intro Q p s h
    obtain ⟨hn, h⟩ := h
    obtain ⟨x, y, z, r, q⟩ := hi _ Q p _ h
    exact ⟨x, y, z, Comes.step (step_choose _ _ _ _ _ _ _ hn) r, q⟩
  | os u l k hi =>
    intro Q p s h
    obtain ⟨x, y, z, r, q⟩ := hi _ Q p _ h
    exact ⟨x, y, z, Comes.step (step_os ..) r, q⟩
  | call c h0 g l k hi =>
    intro Q p s h
    obtain ⟨r, s1, hr, h⟩ := h
    obtain ⟨t1, c1, p1, pre1, hc1, hx⟩ := (runs_reach hr _ (hf.enter c (fun v => (k v).wrap K H id id) h0 g l p [])).comes
    obtain ⟨rfl, rfl⟩ := hx
    obtain ⟨x, y, z, r2, q⟩ := hi r Q p s1 h
    exact ⟨x, y, z, Comes.step (step_call ..) (hc1.trans (Comes.step (step_leaf_ret ..) r2)), q⟩
  | handled own k hi =>
    intro Q p s h
    obtain ⟨x, y, z, r, q⟩ := hi _ Q p s h
    refine ⟨x, y, z, Comes.step ?_ r, q⟩
    show M.step s ⟨.handled own (fun v => (k v).wrap K H id id), G.code, p, st⟩ = _
    rw [step_handled]
    cases own
    · rw [hf.handled] <;> rfl
    · rw [hf.own] <;> rfl
  | genState g k hi =>
    intro Q p s h
    obtain ⟨v, hg, h⟩ := h
    obtain ⟨x, y, z, r, q⟩ := hi _ Q p s h
    exact ⟨x, y, z, Comes.step (step_genState _ _ _ _ _ _ hg) r, q⟩
  | newGen c k hi =>
    intro Q p s h
    obtain ⟨x, y, z, r, q⟩ := hi _ Q p _ h
    exact ⟨x, y, z, Comes.step (step_newGen ..) r, q⟩
  | resume g v l k hi =>
    intro Q p s h
    obtain ⟨res, s1, hw, h⟩ := h
    obtain ⟨x, y, z, r, q⟩ := hi res Q p s1 h
    exact ⟨x, y, z, (wakes_comes hf l (fun v => (k v).wrap K H id id) hw).trans r, q⟩
  | stack k hi =>
    intro Q p s h
    obtain ⟨x, y, z, r, q⟩ := hi _ Q p s h
    exact ⟨x, y, z, Comes.step (by show M.step s ⟨.stack (fun v => (k v).wrap K H id id), G.code, p, st⟩ = _; rw [hf.below]; exact step_stack ..) r, q⟩
  | thread k hi =>
    intro Q p s h
    obtain ⟨x, y, z, r, q⟩ := hi _ Q p s h
    exact ⟨x, y, z, Comes.step (step_thread ..) r, q⟩
/-- a statement that ends plainly, within the rest of a body -/
theorem rch_stmt {p : Program} {w : World} {A : Around} {st : Stmt} {rest : List Stmt} {env : Env} {c : Code} {pos : Pos} {B : List Frame} {s S : Shared} (hin : (Ctx.of c B).In A)
    (h : wpAny (model p w) A (exec st env) (fun f s' => f = .next ∧ s' = S) (fun _ _ => False) s) (hz : s.asleep) :
    ∃ pos', Rch p w s (restOf (st :: rest) env c pos B) S (restOf rest env c pos' B) ∧ S.asleep := by
  obtain ⟨s', p', f, ⟨n, hn⟩, rfl, rfl⟩ := sub_comes (Ctx.fits_of c B) (fun f => match f with | .next => (execs rest env).wrap doneF (leaveH env) id id | f => doneF f) (leaveH env) (exec st env) _ pos s (h (Ctx.of c B) pos hin)
  have q := Rch.comes (p := p) (w := w) n hn hz
  refine ⟨p', ?_, q.2⟩
  unfold restOf
  rw [execs_cons_wrap]
  exact q.1
end
end Hx

set_option maxRecDepth 100000
set_option maxHeartbeats 4000000
namespace Hx
open PySem PySem.W PySem.Calls PyProof.Rows L2

/-! ### a display of written tuples of texts -/
def tupStrs : List Expr → Option (List Str)
  | [] => some []
  | .Constant (.str x) _ _ :: r => (tupStrs r).map (x :: ·)
  | _ => none
def tupOf : Expr → Option (List Str)
  | .Tuple elts _ _ => tupStrs elts
  | _ => none
def constVals : List Str → Tok → List Value
  | [], _ => []
  | x :: r, t => .str x t :: constVals r (t + 1)
theorem constVals_length : ∀ (xs : List Str) (t : Tok), (constVals xs t).length = xs.length
  | [], _ => rfl
  | _ :: r, t => by
    show (constVals r (t + 1)).length + 1 = r.length + 1
    rw [constVals_length r (t + 1)]
def mkT (xs : List Str) (s : Shared) : Shared := { s with heap := s.heap.push { cls := .type "tuple", data := .seq (constVals xs s.toks).toArray }, toks := s.toks + xs.length }
section
variable {P : Program} {w : World} {A : Around} {E : Value → Shared → Prop} {s : Shared} {env : Env}
theorem spl_strs : ∀ (elts : List Expr) {xs : List Str} {pos : Pos} {s : Shared} {Q : List Value → Shared → Prop}, tupStrs elts = some xs → Q (constVals xs s.toks) { s with toks := s.toks + xs.length } →
    wpAny (model P w) A (spliced (backTo pos (starEach elts env))) Q E s
  | [], xs, pos, s, Q, h, q => by
    obtain rfl : [] = xs := Option.some.inj h
    exact Calls.spliced_nil q
  | e :: r, xs, pos, s, Q, h, q => by
    unfold tupStrs at h
    split at h
    · rename_i he
      cases he
    · rename_i x k1 p1 r' he
      injection he with h1 h2
      subst h1 h2
      obtain ⟨ys, hy, rfl⟩ := Option.map_eq_some_iff.mp h
      show wpAny _ _ (spliced ((false, eval (.Constant (.str x) k1 p1) env) :: backTo pos (starEach r env))) _ _ s
      refine Calls.spliced_cons (Calls.Constant_str (spl_strs r hy ?_))
      have e1 : s.toks + 1 + ys.length = s.toks + (x :: ys).length := by
        rw [List.length_cons]; omega
      show Q _ { s with toks := s.toks + 1 + ys.length }
      rw [e1]
      exact q
    · cases h
theorem eval_tup {e : Expr} {xs : List Str} {Q : Value → Shared → Prop} (h : tupOf e = some xs) (hl : xs.length ≤ sizeLine) (q : Q (.ref s.heap.objs.size) (mkT xs s)) : wpAny (model P w) A (eval e env) Q E s := by
  unfold tupOf at h
  split at h
  · exact wpAny_Tuple_spliced (spl_strs _ h ⟨by rw [constVals_length]; exact hl, q⟩)
  · cases h

/-! ### the store of one pair -/
abbrev knd (P : Program) (w : World) : HeapKind P w (List Key) := tupleKind (mixKind P w)
/-- the entry pushed -/
def dpush (d : Addr) (e : DictEntry) (s : Shared) : Shared := { s with heap := s.heap.update d (Obj.mapDictKeys (·.push e)) }
theorem dict_push {d a : Addr} {xs : List (List Key × Addr × Value)} {k : List Key} {v : Value} (hkey : IsTupleKey (mixKind P w) s.heap k a) (hm : s.heap.DictOfH (knd P w) d xs) (hnew : k ∉ xs.map (·.1)) :
    (dpush d ⟨(knd P w).hash k, .ref a, v⟩ s).heap.DictOfH (knd P w) d (xs ++ [(k, a, v)]) := by
  obtain ⟨o, es, ep, ho, hc, hd, he, his, hn⟩ := hm
  refine ⟨_, _, ep + 1, Heap.get?_update_self _ ho (Obj.isFreed_of_dict (Obj.data_mapDictKeys hd _)), hc.mapDictKeys _, Obj.data_mapDictKeys hd _, ?_, fun x hx => ?_, ?_⟩
  · rw [Array.toList_push, he, List.map_append] <;> rfl
  · rcases List.mem_append.mp hx with hx | hx
    · exact (knd P w).keeps (his x hx) ho hd (Heap.SameBut.update ..)
    · obtain rfl := List.mem_singleton.mp hx
      exact (knd P w).keeps hkey ho hd (Heap.SameBut.update ..)
  · rw [List.map_append, List.nodup_append]
    refine ⟨hn, by simp, fun x hx y hy e => ?_⟩
    obtain rfl := List.mem_singleton.mp hy
    exact hnew (e ▸ hx)
theorem find_new {d a : Addr} {xs : List (List Key × Addr × Value)} {k : List Key} {Q : Option Nat → Shared → Prop} (hu : A.units < cLine) (hkey : IsTupleKey (mixKind P w) s.heap k a) (hm : s.heap.DictOfH (knd P w) d xs) (hnew : k ∉ xs.map (·.1))
    (q : Q none s) : wpAny (model P w) A (dictFind d (.ref a) ((knd P w).hash k)) Q E s := by
  obtain ⟨o, es, ep, ho, hc, hd, he, his, hn⟩ := hm
  refine wpAny_dictFind_heap (knd := knd P w) hu hkey ho hd he his hn (fun _ => q) fun j p hj => ?_
  exact absurd (List.mem_map.mpr ⟨(k, p), List.mem_of_getElem? hj, rfl⟩) hnew
theorem push_new {d : Addr} {xs : List (List Key × Addr × Value)} {e : DictEntry} {Q : Unit → Shared → Prop} {part : Option Value} (hm : s.heap.DictOfH (knd P w) d xs) (hl : xs.length ≤ 1000) (q : Q () (dpush d e s)) :
    wpAny (model P w) A (updateDictKeys d (·.push e) part) Q E s := by
  obtain ⟨o, es, ep, ho, hc, hd, he, his, hn⟩ := hm
  have z : es.size = xs.length := by
    have z1 := congrArg List.length he
    rw [List.length_map, Array.length_toList] at z1
    exact z1
  exact wpAny_updateDictKeys ho hd q (by rw [z]; exact Nat.le_trans hl (by decide)) (by rw [Array.size_push]; exact Nat.le_refl _)
def tk (n : Nat) (s : Shared) : Shared := { s with toks := s.toks + n }
theorem set_new {d a : Addr} {xs : List (List Key × Addr × Value)} {k : List Key} {v : Value} {Q : Unit → Shared → Prop} (hu : A.units < cLine) (hkey : IsTupleKey (mixKind P w) s.heap k a) (hm : s.heap.DictOfH (knd P w) d xs)
    (hnew : k ∉ xs.map (·.1)) (hl : xs.length ≤ 1000) (q : Q () (dpush d ⟨(knd P w).hash k, .ref a, v⟩ (tk (k.length + 1) s))) : wpAny (model P w) A (dictSet d (.ref a) v) Q E s := by
  unfold dictSet
  refine wpAny_holding (wpAny_bind ((knd P w).pyHash hu hkey ?_))
  unfold dictSetHashed
  refine wpAny_holding (wpAny_bind (find_new (s := tk (k.length + 1) s) hu hkey hm hnew ?_))
  exact wpAny_bind (wpAny_rule (push_new (s := tk (k.length + 1) s) hm hl q))

/-! ### what a pair leaves -/
abbrev En := Str × Str × List Str
abbrev En.key (e : En) : List Key := [.inr e.1, .inr e.2.1]
/-- the two tuples of a pair -/
def mk2 (e : En) (s : Shared) : Shared := mkT e.2.2 (mkT [e.1, e.2.1] s)
/-- .. stored -/
def pairL (P : Program) (w : World) (d : Addr) (e : En) (s : Shared) : Shared :=
  dpush d ⟨(knd P w).hash e.key, .ref s.heap.objs.size, .ref (s.heap.objs.size + 1)⟩ (tk 3 (mk2 e s))
def rowsL (P : Program) (w : World) (d : Addr) : List En → Shared → Shared
  | [], s => s
  | e :: r, s => rowsL P w d r (pairL P w d e s)
/-- the entries' keys and places -/
def xsL : List En → Nat → List (List Key × Addr × Value)
  | [], _ => []
  | e :: r, n => (e.key, n, .ref (n + 1)) :: xsL r (n + 2)
theorem xsL_keys : ∀ (l : List En) (n : Nat), (xsL l n).map (·.1) = l.map (·.key)
  | [], _ => rfl
  | e :: r, n => by
    show e.key :: (xsL r (n + 2)).map (·.1) = e.key :: r.map (·.key)
    rw [xsL_keys r (n + 2)]
theorem isKey_const : ∀ (xs : List Str) (t : Tok), PySem.ItemsAre (mixKind P w) (xs.map Sum.inr) (constVals xs t)
  | [], _ => .nil
  | x :: r, t => .cons (keyIs_str x t) (isKey_const r (t + 1))
theorem mkT_get {xs : List Str} {b : Addr} {o : Obj} (h : s.heap.get? b = some o) : (mkT xs s).heap.get? b = some o := Heap.get?_push_of_some _ h
theorem mkT_key (xs : List Str) : IsTupleKey (mixKind P w) (mkT xs s).heap (xs.map Sum.inr) s.heap.objs.size :=
  ⟨_, (constVals xs s.toks).toArray, 0, Heap.get?_push_size _ rfl, rfl, rfl, by
    show PySem.ItemsAre (mixKind P w) (xs.map Sum.inr) (constVals xs s.toks).toArray.toList
    rw [List.toList_toArray]
    exact isKey_const xs s.toks⟩
theorem mkT_size (xs : List Str) : (mkT xs s).heap.objs.size = s.heap.objs.size + 1 := Heap.size_push _ _
theorem keyT_keeps {h h' : Heap} {k : List Key} {a : Addr} (x : IsTupleKey (mixKind P w) h k a) (kk : ∀ b o, h.get? b = some o → h'.get? b = some o) : IsTupleKey (mixKind P w) h' k a := by
  obtain ⟨o, items, n, ho, r⟩ := x
  exact ⟨o, items, n, kk _ _ ho, r⟩
theorem dict_keeps {h h' : Heap} {d : Addr} {xs : List (List Key × Addr × Value)} (x : h.DictOfH (knd P w) d xs) (kk : ∀ b o, h.get? b = some o → h'.get? b = some o) : h'.DictOfH (knd P w) d xs := by
  obtain ⟨o, es, ep, ho, hc, hd, he, his, hn⟩ := x
  exact ⟨o, es, ep, kk _ _ ho, hc, hd, he, fun x hx => keyT_keeps (his x hx) kk, hn⟩
theorem dpush_size (d : Addr) (e : DictEntry) : (dpush d e s).heap.objs.size = s.heap.objs.size := Heap.size_update _ _ _
theorem dpush_ne {d b : Addr} {e : DictEntry} (h : b ≠ d) : (dpush d e s).heap.get? b = s.heap.get? b := Heap.get?_update_other _ _ (Ne.symm h)
/-- what holds between two pairs -/
structure At (P : Program) (w : World) (d : Addr) (xs : List (List Key × Addr × Value)) (s : Shared) : Prop where
  m : s.heap.DictOfH (knd P w) d xs
  sz : d < s.heap.objs.size
theorem pairL_at {d : Addr} {xs : List (List Key × Addr × Value)} {e : En} (x : At P w d xs s) (hnew : e.key ∉ xs.map (·.1)) :
    At P w d (xs ++ [(e.key, s.heap.objs.size, .ref (s.heap.objs.size + 1))]) (pairL P w d e s) := by
  have k : ∀ b o, s.heap.get? b = some o → (tk 3 (mk2 e s)).heap.get? b = some o := fun b o h => mkT_get (mkT_get h)
  refine ⟨dict_push (s := tk 3 (mk2 e s)) (keyT_keeps (mkT_key (s := s) [e.1, e.2.1]) fun b o h => mkT_get h) (dict_keeps x.m k) hnew, ?_⟩
  unfold pairL
  rw [dpush_size]
  show d < (mkT e.2.2 (mkT [e.1, e.2.1] s)).heap.objs.size
  rw [mkT_size, mkT_size]
  exact Nat.lt_succ_of_lt (Nat.lt_succ_of_lt x.sz)
theorem pairL_size (d : Addr) (e : En) : (pairL P w d e s).heap.objs.size = s.heap.objs.size + 2 := by
  unfold pairL
  rw [dpush_size]
  show (mkT e.2.2 (mkT [e.1, e.2.1] s)).heap.objs.size = _
  rw [mkT_size, mkT_size]
theorem rowsL_at {d : Addr} : ∀ {l : List En} {xs : List (List Key × Addr × Value)} {s : Shared}, At P w d xs s → (xs.map (·.1) ++ l.map (·.key)).Nodup → At P w d (xs ++ xsL l s.heap.objs.size) (rowsL P w d l s)
  | [], xs, s, x, _ => by
    show At P w d (xs ++ []) s
    rw [List.append_nil]
    exact x
  | e :: r, xs, s, x, hn => by
    have hnew : e.key ∉ xs.map (·.1) := fun z => by
      rw [List.nodup_append] at hn
      exact hn.2.2 _ z _ List.mem_cons_self rfl
    have y := rowsL_at (l := r) (pairL_at x hnew) (by
      rw [List.map_append]
      show (xs.map (·.1) ++ [e.key] ++ r.map (·.key)).Nodup
      rw [List.append_assoc]
      exact hn)
    rw [pairL_size, List.append_assoc] at y
    exact y
theorem rowsL_size (d : Addr) : ∀ (l : List En) (s : Shared), (rowsL P w d l s).heap.objs.size = s.heap.objs.size + 2 * l.length
  | [], s => rfl
  | e :: r, s => by
    show (rowsL P w d r (pairL P w d e s)).heap.objs.size = _
    rw [rowsL_size d r, pairL_size, List.length_cons]
    omega

/-! ### the display's evaluation -/
/-- a pair's text -/
def enOf (e : Expr × Expr) : Option En := match tupOf e.1, tupOf e.2 with
  | some [x, y], some vs => if vs.length ≤ 3 then some (x, y, vs) else none
  | _, _ => none
def mkPairs (env : Env) (pos : Pos) (l : List (Expr × Expr)) : List (Sem Value × Sem Value) := l.map fun e => (eval e.1 env, do let x ← eval e.2 env; standAt pos; pure x)
theorem small3 {n : Nat} (h : n ≤ 3) : n ≤ sizeLine := Nat.le_trans h (by decide)
theorem enOf_ok {e : Expr × Expr} {n : En} (h : enOf e = some n) : tupOf e.1 = some [n.1, n.2.1] ∧ tupOf e.2 = some n.2.2 ∧ n.2.2.length ≤ 3 := by
  unfold enOf at h
  split at h
  · rename_i x y vs h1 h2
    split at h
    · rename_i h3
      obtain rfl := Option.some.inj h
      exact ⟨h1, h2, h3⟩
    · cases h
  · cases h
theorem eval_key {e : Expr × Expr} {n : En} {Q : Value → Shared → Prop} (h : enOf e = some n) (q : Q (.ref s.heap.objs.size) (mkT [n.1, n.2.1] s)) : wpAny (model P w) A (eval e.1 env) Q E s :=
  eval_tup (enOf_ok h).1 (by show 2 ≤ sizeLine; decide) q
theorem eval_val {e : Expr × Expr} {n : En} {pos : Pos} {Q : Value → Shared → Prop} (h : enOf e = some n) (q : Q (.ref s.heap.objs.size) (mkT n.2.2 s)) :
    wpAny (model P w) A (do let x ← eval e.2 env; standAt pos; pure x) Q E s :=
  wpAny_bind (eval_tup (enOf_ok h).2.1 (small3 (enOf_ok h).2.2) (wpAny_bind (wpAny_standAt (wpAny_pure q))))
/-- one pair of a long display -/
theorem long_pair {d : Addr} {xs : List (List Key × Addr × Value)} {e : Expr × Expr} {n : En} {pos : Pos} {Q : PUnit → Shared → Prop} (hu : A.units < cLine) (h : enOf e = some n) (x : At P w d xs s) (hnew : n.key ∉ xs.map (·.1)) (hl : xs.length ≤ 1000)
    (q : Q PUnit.unit (pairL P w d n s)) {p : Sem Value × Sem Value} (hp : p = (eval e.1 env, do let x ← eval e.2 env; standAt pos; pure x)) :
    wpAny (model P w) A (do let kv ← p.1; let vv ← holding [kv] p.2; holding [kv, vv] (dictSet d kv vv)) (fun _ s' => Q PUnit.unit s') E s := by
  subst hp
  refine wpAny_bind (eval_key h ?_)
  refine wpAny_bind (wpAny_holding (eval_val h ?_))
  have k : ∀ b o, s.heap.get? b = some o → (mk2 n s).heap.get? b = some o := fun b o h => mkT_get (mkT_get h)
  have ea : (mkT [n.1, n.2.1] s).heap.objs.size = s.heap.objs.size + 1 := mkT_size _
  rw [ea]
  exact wpAny_holding (set_new (s := mk2 n s) (k := n.key) hu (keyT_keeps (mkT_key (s := s) [n.1, n.2.1]) fun b o h => mkT_get h) (dict_keeps x.m k) hnew hl q)
end
end Hx

set_option maxRecDepth 100000
set_option maxHeartbeats 4000000
namespace Hx
open PySem PySem.W PySem.Calls PyProof.Rows L2
section
variable {P : Program} {w : World} {A : Around} {E : Value → Shared → Prop} {s : Shared} {env : Env}
theorem dd18 (p1 p2 p3 p4 p5 p6 p7 p8 p9 p10 p11 p12 p13 p14 p15 p16 p17 q : Sem Value × Sem Value) :
  dictDisplay ([p1,p2,p3,p4,p5,p6,p7,p8,p9,p10,p11,p12,p13,p14,p15,p16,p17,q].map fun p => (some p.1, p.2)) = (do
    let d ← subDict [p1,p2,p3,p4,p5,p6,p7,p8,p9,p10,p11,p12,p13,p14,p15,p16,p17]
    let sub ← holding [.ref d] (subDict [q])
    (holding [.ref d, .ref sub] (mergeMapping d (.ref sub) false)).onRaise (fun x => do let _ ← holding [.ref d, x] (runValue (.builtin "proto.let_go" {})))
    pure (.ref d)) := by
  unfold dictDisplay
  dsimp only [List.map]
  simp only [List.forIn_cons, List.forIn_nil, List.nil_append, List.cons_append, List.length_cons, List.length_nil, pure_bind, bind_assoc, Nat.reduceAdd, Nat.reduceBEq, Bool.false_eq_true, if_false, List.isEmpty_cons, if_true]
def newD (s : Shared) : Shared := { s with heap := s.heap.push { cls := .type "dict", data := .dict #[] } }
theorem newD_at : At P w s.heap.objs.size [] (newD s) := ⟨Heap.DictOfH.new _, by
  show s.heap.objs.size < (s.heap.push _).objs.size
  rw [Heap.size_push]
  exact Nat.lt_succ_self _⟩
theorem rows_run {d : Addr} {pos : Pos} (hu : A.units < cLine) : ∀ {l : List (Expr × Expr)} {ns : List En} {xs : List (List Key × Addr × Value)} {s : Shared} {Q : PUnit → Shared → Prop}, l.map enOf = ns.map some → At P w d xs s →
    (xs.map (·.1) ++ ns.map (·.key)).Nodup → xs.length + ns.length ≤ 1000 → Q PUnit.unit (rowsL P w d ns s) →
    wpAny (model P w) A (forIn (mkPairs env pos l) PUnit.unit fun (x : Sem Value × Sem Value) (_ : PUnit) => match x with
          | (k, v) => (do
            let kv ← k
            let vv ← holding [kv] v
            holding [kv, vv] (dictSet d kv vv)
            pure (ForInStep.yield PUnit.unit) : Sem (ForInStep PUnit))) Q E s
  | [], ns, xs, s, Q, h, x, hn, hz, q => by
    cases ns with
    | cons _ _ => cases h
    | nil =>
      show wpAny _ _ (forIn ([] : List (Sem Value × Sem Value)) _ _) _ _ _
      rw [List.forIn_nil]
      exact wpAny_pure q
  | e :: l, ns, xs, s, Q, h, x, hn, hz, q => by
    cases ns with
    | nil => cases h
    | cons n ns =>
      have h1 : enOf e :: l.map enOf = some n :: ns.map some := h
      injection h1 with he hr
      have hnew : n.key ∉ xs.map (·.1) := fun z => by
        rw [List.nodup_append] at hn
        exact hn.2.2 _ z _ List.mem_cons_self rfl
      rw [List.length_cons] at hz
      show wpAny _ _ (forIn ((eval e.1 env, _) :: mkPairs env pos l) _ _) _ _ _
      rw [List.forIn_cons]
      refine wpAny_bind ?_
      refine wpAny_bind (eval_key he ?_)
      refine wpAny_bind (wpAny_holding (eval_val he ?_))
      have k : ∀ b o, s.heap.get? b = some o → (mk2 n s).heap.get? b = some o := fun b o h => mkT_get (mkT_get h)
      have ea : (mkT [n.1, n.2.1] s).heap.objs.size = s.heap.objs.size + 1 := mkT_size _
      rw [ea]
      refine wpAny_bind (wpAny_holding (set_new (s := mk2 n s) (k := n.key) hu (keyT_keeps (mkT_key (s := s) [n.1, n.2.1]) fun b o h => mkT_get h) (dict_keeps x.m k) hnew (by omega) ?_))
      refine wpAny_pure ?_
      show wpAny _ _ (forIn (mkPairs env pos l) PUnit.unit _) Q E (pairL P w d n s)
      refine rows_run hu hr (pairL_at x hnew) ?_ ?_ q
      · rw [List.map_append]
        show (xs.map (·.1) ++ [n.key] ++ ns.map (·.key)).Nodup
        rw [List.append_assoc]
        exact hn
      · rw [List.length_append]
        show xs.length + 1 + ns.length ≤ 1000
        omega
/-- a long display -/
theorem sub_long {pos : Pos} {l : List (Expr × Expr)} {ns : List En} {Q : Addr → Shared → Prop} (hu : A.units < cLine) (h : l.map enOf = ns.map some) (hl : ¬ l.length ≤ 15) (hn : (ns.map (·.key)).Nodup) (hz : ns.length ≤ 1000)
    (q : Q s.heap.objs.size (rowsL P w s.heap.objs.size ns (newD s))) : wpAny (model P w) A (subDict (mkPairs env pos l)) Q E s := by
  unfold subDict
  refine wpAny_bind (wpAny_alloc (wpAny_bind (wpAny_holding ?_)))
  rw [if_neg (by unfold mkPairs; rw [List.length_map]; exact hl)]
  refine wpAny_bind (wpAny_rule ?_)
  refine wpAny_bind (rows_run (s := newD s) hu h newD_at (by simpa using hn) (by simpa using hz) ?_)
  exact wpAny_pure (wpAny_pure q)
/-- a display of one pair -/
theorem sub_one {pos : Pos} {e : Expr × Expr} {n : En} {Q : Addr → Shared → Prop} (hu : A.units < cLine) (h : enOf e = some n) (q : Q s.heap.objs.size (pairL P w s.heap.objs.size n (newD s))) : wpAny (model P w) A (subDict (mkPairs env pos [e])) Q E s := by
  unfold subDict
  refine wpAny_bind (wpAny_alloc (wpAny_bind (wpAny_holding ?_)))
  rw [if_pos (show (mkPairs env pos [e]).length ≤ 15 by show 1 ≤ 15; decide)]
  show wpAny _ _ (evalPairs [(eval e.1 env, _)] >>= _) _ _ (newD s)
  refine wpAny_bind ?_
  refine wpAny_bind (eval_key h ?_)
  refine wpAny_bind (wpAny_holding (eval_val h ?_))
  refine wpAny_bind (wpAny_holding (wpAny_pure (wpAny_pure ?_)))
  have ea : (mkT [n.1, n.2.1] (newD s)).heap.objs.size = (newD s).heap.objs.size + 1 := mkT_size _
  rw [ea]
  refine wpAny_holding ?_
  rw [List.forIn_cons]
  have k : ∀ b o, (newD s).heap.get? b = some o → (mk2 n (newD s)).heap.get? b = some o := fun b o h => mkT_get (mkT_get h)
  have x : At P w s.heap.objs.size [] (newD s) := newD_at
  refine wpAny_bind (wpAny_bind (wpAny_bind (set_new (s := mk2 n (newD s)) (k := n.key) (xs := []) hu (keyT_keeps (mkT_key (s := newD s) [n.1, n.2.1]) fun b o h => mkT_get h) (dict_keeps x.m k) (by simp) (by simp) ?_)))
  refine wpAny_pure ?_
  show wpAny _ _ (forIn ([] : List (Value × Value)) PUnit.unit _) _ _ _
  rw [List.forIn_nil]
  exact wpAny_pure (wpAny_pure (wpAny_pure q))
theorem isSub_dict : isSubtype (.type "dict") (.type "dict") = pure true := by rw [isSubtype_type]; kernel_rfl
/-- a dict of one pair is merged into a dict -/
theorem merge_one {d a k0 : Addr} {xs : List (List Key × Addr × Value)} {k : List Key} {v : Value} {Q : Unit → Shared → Prop} (hu : A.units < cLine) (hm : s.heap.DictOfH (knd P w) d xs) (h0 : xs ≠ []) (hl : xs.length ≤ 1000)
    (ha : s.heap.DictOfH (knd P w) a [(k, k0, v)]) (hs : (a == sysModules) = false) (hne : a ≠ d) (hnew : k ∉ xs.map (·.1)) (q : Q () (dpush d ⟨(knd P w).hash k, .ref k0, v⟩ s)) : wpAny (model P w) A (mergeMapping d (.ref a) false) Q E s := by
  obtain ⟨oa, ea, epa, hoa, hca, hda, hea, hisa, hna⟩ := id ha
  obtain ⟨o, es, ep, ho, hc, hd, he, his, hn⟩ := id hm
  have hTa : s.TypeIs (.ref a) "dict" := ⟨oa, hoa, hca.1⟩
  have hk : IsTupleKey (mixKind P w) s.heap k k0 := hisa (k, k0, v) List.mem_cons_self
  have ha1 : ea = #[entryOfKey (knd P w) (k, k0, v)] := by
    apply Array.toList_inj.mp
    rw [hea] <;> rfl
  have hes : es.isEmpty = false := by
    cases xs with
    | nil => exact absurd rfl h0
    | cons x r =>
      rw [Array.isEmpty_eq_false_iff]
      intro z
      rw [z] at he
      cases he
  unfold mergeMapping
  refine wpAny_bind (wpAny_isInstance hTa isSub_dict ?_)
  rw [if_pos rfl]
  refine wpAny_bind (wpAny_specialOf hTa PySem.F.slot_dict_iter.lookup ?_)
  refine wpAny_bind (wpAny_pure ?_)
  show wpAny _ _ (if (a == sysModules) = true then _ else _) _ _ _
  rw [if_neg (by rw [hs]; exact Bool.false_ne_true)]
  refine wpAny_bind (wpAny_dictEntries ho hd ?_)
  rw [if_neg (by rw [hes]; exact Bool.false_ne_true)]
  refine wpAny_bind (wpAny_dictEntries hoa hda ?_)
  refine wpAny_bind (wpAny_dictEpoch hoa hda ?_)
  rw [ha1]
  refine wpAny_bind ?_
  show wpAny _ _ (forIn [0] PUnit.unit _) _ _ _
  rw [List.forIn_cons]
  refine wpAny_bind (wpAny_bind (wpAny_dictEntries hoa hda ?_))
  rw [ha1]
  have ke : ∀ b o', b ≠ d → s.heap.get? b = some o' → (dpush d ⟨(knd P w).hash k, .ref k0, v⟩ s).heap.get? b = some o' := fun b o' hb e => (dpush_ne hb).trans e
  refine wpAny_bind (wpAny_holding ?_)
  show wpAny _ _ (dictPut d ((knd P w).hash k) (.ref k0) v) _ _ _
  unfold dictPut
  refine wpAny_bind (find_new hu hk hm hnew ?_)
  refine push_new hm hl ?_
  refine wpAny_bind (wpAny_dictEpoch (ke _ _ hne hoa) hda ?_)
  rw [if_neg (by simp)]
  refine wpAny_pure ?_
  show wpAny _ _ (forIn ([] : List Nat) PUnit.unit _) _ _ _
  rw [List.forIn_nil]
  exact wpAny_pure (wpAny_pure q)
end
end Hx

set_option maxRecDepth 100000
set_option maxHeartbeats 4000000
namespace Hx
open PySem PySem.W PySem.Calls PyProof.Rows L2
section
variable {P : Program} {w : World} {A : Around} {E : Value → Shared → Prop} {s : Shared} {env : Env}
/-- a name of the module is bound -/
def bindG (w : World) (name : Str) (v : Value) (s : Shared) : Shared :=
  { s with heap := s.heap.update mainNs (Obj.putName name (if name.cps.isEmpty = true then 0 else reduceHash (w.params.strHash name.cps)) (.str name s.toks) v), toks := s.toks + 1 }
theorem store_G {name : Str} {v : Value} {o : Obj} {es : Array DictEntry} {n : Nat} {Q : Unit → Shared → Prop} (hk : env.kindOf name = some .local) (hsc : env.scope.kind = .module) (hl : env.locals = mainNs) (hg : env.globals = mainNs)
    (ho : s.heap.get? mainNs = some o) (hd : o.data = .dict es n) (ha : aRefKeyMayBeTheName name es = false) (q : Q () (bindG w name v s)) : wpAny (model P w) A (storeName env name v) Q E s := by
  have e1 : storeName env name v = nsSet env.locals name v := by
    unfold storeName
    simp [hk, hsc, hl, hg]
  rw [e1, hl]
  unfold nsSet strHash
  refine wpAny_bind (wpAny_bind (wpAny_askSetting (wpAny_pure ?_)))
  refine wpAny_bind (wpAny_mkText ?_)
  refine wpAny_bind (wpAny_loadPart (s := { s with toks := s.toks + 1 }) ho ?_)
  rw [hd]
  show wpAny _ _ (if aRefKeyMayBeTheName name es = true then _ else _) _ _ _
  rw [if_neg (by rw [ha]; exact Bool.false_ne_true)]
  exact wpAny_updatePart (s := { s with toks := s.toks + 1 }) ho q
theorem pairL_get {d b : Addr} {e : En} {o : Obj} (hb : b ≠ d) (h : s.heap.get? b = some o) : (pairL P w d e s).heap.get? b = some o := (dpush_ne hb).trans (mkT_get (mkT_get h))
theorem rowsL_get {d b : Addr} {o : Obj} (hb : b ≠ d) : ∀ {l : List En} {s : Shared}, s.heap.get? b = some o → (rowsL P w d l s).heap.get? b = some o
  | [], _, h => h
  | e :: r, s, h => rowsL_get hb (l := r) (pairL_get hb h)
theorem newD_get {b : Addr} {o : Obj} (h : s.heap.get? b = some o) : (newD s).heap.get? b = some o := Heap.get?_push_of_some _ h
theorem newD_size : (newD s).heap.objs.size = s.heap.objs.size + 1 := Heap.size_push _ _
/-- the display's end -/
def dispS (P : Program) (w : World) (l : List En) (n : En) (s : Shared) : Shared :=
  let s1 := rowsL P w s.heap.objs.size l (newD s)
  dpush s.heap.objs.size ⟨(knd P w).hash n.key, .ref (s1.heap.objs.size + 1), .ref (s1.heap.objs.size + 1 + 1)⟩ (pairL P w s1.heap.objs.size n (newD s1))
theorem holdR {α : Type} {t : Sem α} {k : Value → Sem Unit} {Q : α → Shared → Prop} (h : wpAny (model P w) A t Q (fun _ _ => False) s) : wpAny (model P w) A (t.onRaise k) Q E s :=
  wpAny_onRaise (wpAny_mono h (fun _ _ q => q) fun _ _ z => z.elim)
theorem dd18l (pos : Pos) (l : List (Expr × Expr)) (q : Expr × Expr) (h : l.length = 17) :
  dictDisplay ((mkPairs env pos (l ++ [q])).map fun p => (some p.1, p.2)) = (do
    let d ← subDict (mkPairs env pos l)
    let sub ← holding [.ref d] (subDict (mkPairs env pos [q]))
    (holding [.ref d, .ref sub] (mergeMapping d (.ref sub) false)).onRaise (fun x => do let _ ← holding [.ref d, x] (runValue (.builtin "proto.let_go" {})))
    pure (.ref d)) := by
  match l, h with
  | [p1,p2,p3,p4,p5,p6,p7,p8,p9,p10,p11,p12,p13,p14,p15,p16,p17], _ => exact dd18 _ _ _ _ _ _ _ _ _ _ _ _ _ _ _ _ _ _
theorem disp_ok {pos : Pos} {l : List (Expr × Expr)} {q : Expr × Expr} {ns : List En} {n : En} {Q : Value → Shared → Prop} (hu : A.units < cLine)
    (h : l.map enOf = ns.map some) (hq : enOf q = some n) (hn : (ns.map (·.key)).Nodup) (hnew : n.key ∉ ns.map (·.key)) (h0 : ns.length = 17) (hsm : sysModules < s.heap.objs.size)
    (k : Q (.ref s.heap.objs.size) (dispS P w ns n s)) :
    wpAny (model P w) A (dictDisplay ((mkPairs env pos (l ++ [q])).map fun p => (some p.1, p.2))) Q E s := by
  have hl17 : l.length = 17 := by
    have e := congrArg List.length h
    rw [List.length_map, List.length_map] at e
    rw [e, h0]
  rw [dd18l pos l q hl17]
  refine wpAny_bind ?_
  refine sub_long hu h (by rw [hl17]; decide) hn (by omega) ?_
  have x0 : At P w s.heap.objs.size (xsL ns (newD s).heap.objs.size) (rowsL P w s.heap.objs.size ns (newD s)) := rowsL_at (xs := []) newD_at (by simpa using hn)
  revert k
  unfold dispS
  generalize es1 : rowsL P w s.heap.objs.size ns (newD s) = s1
  intro k
  rw [es1] at x0
  have z1 : s.heap.objs.size < s1.heap.objs.size := x0.sz
  refine wpAny_bind (wpAny_holding ?_)
  refine sub_one hu hq ?_
  have x1 := pairL_at (P := P) (w := w) (e := n) (newD_at (P := P) (w := w) (s := s1)) (by simp)
  have x2 : At P w s.heap.objs.size (xsL ns (newD s).heap.objs.size) (pairL P w s1.heap.objs.size n (newD s1)) := by
    refine ⟨?_, ?_⟩
    · obtain ⟨⟨o, es, ep, ho, hc, hd, he, his, hn'⟩, _⟩ := x0
      have kk : ∀ b ob, b ≠ s1.heap.objs.size → s1.heap.get? b = some ob → (pairL P w s1.heap.objs.size n (newD s1)).heap.get? b = some ob := fun b ob hb e => pairL_get hb (newD_get e)
      have lt : ∀ {b : Addr} {ob : Obj}, s1.heap.get? b = some ob → b ≠ s1.heap.objs.size := fun e => Nat.ne_of_lt (Heap.lt_size e)
      refine ⟨o, es, ep, kk _ _ (lt ho) ho, hc, hd, he, fun x hx => ?_, hn'⟩
      obtain ⟨ob, items, m, hob, r⟩ := his x hx
      exact ⟨ob, items, m, kk _ _ (lt hob) hob, r⟩
    · rw [pairL_size, newD_size]
      exact Nat.lt_add_right _ (Nat.lt_add_right _ z1)
  refine wpAny_bind (holdR (wpAny_holding ?_))
  have hk2 : (xsL ns (newD s).heap.objs.size).map (·.1) = ns.map (·.key) := xsL_keys _ _
  have hlen : (xsL ns (newD s).heap.objs.size).length = 17 := by
    have e := congrArg List.length hk2
    rw [List.length_map, List.length_map] at e
    rw [e, h0]
  have hx1 := x1.m
  rw [newD_size] at hx1
  refine merge_one hu x2.m (fun z => by rw [z] at hlen; cases hlen) (by rw [hlen]; decide) hx1 ?_ (Nat.ne_of_gt z1) (by rw [hk2]; exact hnew) ?_
  · cases e : (s1.heap.objs.size == sysModules) with
    | false => rfl
    | true =>
      have e2 : s1.heap.objs.size = sysModules := beq_iff_eq.mp e
      exact absurd (Nat.lt_trans hsm z1) (by rw [e2]; exact Nat.lt_irrefl _)
  · exact wpAny_pure k
/-- what the statement leaves -/
def stmtS (P : Program) (w : World) (name : Str) (l : List En) (n : En) (s : Shared) : Shared := bindG w name (.ref s.heap.objs.size) (dispS P w l n s)
theorem stmt_ok {name : Str} {np pos pos' : Pos} {keys : List (Option Expr)} {values : List Expr} {l : List (Expr × Expr)} {q : Expr × Expr} {ns : List En} {n : En} {o : Obj} {es : Array DictEntry} {m : Nat}
    (hu : A.units < cLine) (hshape : (evalEachOpt keys env).zip ((evalEach values env).map fun v => do let x ← v; standAt pos'; pure x) = (mkPairs env pos' (l ++ [q])).map fun p => (some p.1, p.2))
    (h : l.map enOf = ns.map some) (hq : enOf q = some n) (hn : (ns.map (·.key)).Nodup) (hnew : n.key ∉ ns.map (·.key)) (h0 : ns.length = 17) (hsm : sysModules < s.heap.objs.size)
    (hk : env.kindOf name = some .local) (hsc : env.scope.kind = .module) (hl : env.locals = mainNs) (hg : env.globals = mainNs) (ho : s.heap.get? mainNs = some o) (hd : o.data = .dict es m) (ha : aRefKeyMayBeTheName name es = false) :
    wpAny (model P w) A (exec (.Assign [.Name name np] (.Dict keys values pos') pos) env) (fun f s' => f = .next ∧ s' = stmtS P w name ns n s) (fun _ _ => False) s := by
  refine wpAny_Assign_Name ?_ rfl
  rw [arm_eval_Dict, hshape]
  refine wpAny_bind (wpAny_standAt (disp_ok hu h hq hn hnew h0 hsm ?_))
  have hlt := Heap.lt_size ho
  have ne1 : mainNs ≠ s.heap.objs.size := Nat.ne_of_lt hlt
  have z0 : (newD s).heap.objs.size = s.heap.objs.size + 1 := newD_size
  have z1 : s.heap.objs.size < (rowsL P w s.heap.objs.size ns (newD s)).heap.objs.size := by rw [rowsL_size, z0]; omega
  have ho2 : (dispS P w ns n s).heap.get? mainNs = some o := (dpush_ne ne1).trans (pairL_get (Nat.ne_of_lt (Nat.lt_trans hlt z1)) (newD_get (rowsL_get ne1 (newD_get ho))))
  exact store_G hk hsc hl hg ho2 hd ha ⟨rfl, rfl⟩
end
end Hx

set_option maxRecDepth 100000
set_option maxHeartbeats 1000000
/-! a table of the top, its keys pairs of texts: (a, b) in T, T[a, b] -/
namespace DL
open PySem PySem.Spec L2
open PyProof.Rows hiding St
abbrev knd (P : Program) (w : World) : HeapKind P w (List Key) := tupleKind (mixKind P w)
abbrev Row3 := Str × Str × List Str
abbrev Row3.key (t : Row3) : List Key := [.inr t.1, .inr t.2.1]
def strOf : Value → Option Str
  | .str x _ => some x
  | _ => none
def strsOf : List Value → Option (List Str)
  | [] => some []
  | v :: r => match strOf v, strsOf r with
    | some x, some l => some (x :: l)
    | _, _ => none
def tupAt (K : PySem.W.Frag) (v : Value) : Option (List Str) := match v with
  | .ref a => (match K.lookup a with
    | some ⟨.type c, none, .seq its _, _⟩ => if (decide (c = "tuple") && decide (its.size ≤ sizeLine)) = true then strsOf its.toList else none
    | _ => none)
  | _ => none
def tabObs (K : PySem.W.Frag) (a : Addr) : Option (List (Int × Option (List Str) × Option (List Str))) := match K.lookup a with
  | some ⟨.type c, none, .dict es _, sl⟩ => if (decide (c = "dict") && (sl.isEmpty && !(a == sysModules))) = true then some (es.toList.map fun e => (e.hash, tupAt K e.key, tupAt K e.val)) else none
  | _ => none
def tabVal (P : Program) (w : World) (tb : List Row3) : Option (List (Int × Option (List Str) × Option (List Str))) := some (tb.map fun t => ((knd P w).hash (Row3.key t), some [t.1, t.2.1], some t.2.2))
theorem strsOf_ok : ∀ {us : List Value} {xs : List Str}, strsOf us = some xs → Vals (xs.map V.str) us ∧ ItemsAre (mixKind P w) (xs.map Sum.inr) us
  | [], xs, h => by cases h; exact ⟨.nil, .nil⟩
  | u :: us, xs, h => by
    unfold strsOf at h
    split at h
    · rename_i x l h1 h2
      cases h
      obtain ⟨a, b⟩ := strsOf_ok (P := P) (w := w) h2
      unfold strOf at h1
      split at h1
      · cases h1
        refine ⟨.cons ⟨_, rfl⟩ a, .cons ?_ b⟩
        simp [mixKind, keyIs, Value.isStrOf]
      · cases h1
    · cases h
theorem tupAt_ok {K : PySem.W.Frag} {v : Value} {xs : List Str} (h : tupAt K v = some xs) : ∃ b o its n, v = .ref b ∧ K.lookup b = some o ∧ o.cls = .type "tuple" ∧ o.data = .seq its n ∧ its.size ≤ sizeLine ∧ strsOf its.toList = some xs ∧ o.dict = none := by
  unfold tupAt at h
  cases v with
  | ref a =>
    have h1 : (match K.lookup a with
      | some ⟨.type c, none, .seq its _, _⟩ => if (decide (c = "tuple") && decide (its.size ≤ sizeLine)) = true then strsOf its.toList else none
      | _ => none) = some xs := h
    cases q : K.lookup a with
    | none => rw [q] at h1; cases h1
    | some ob =>
      obtain ⟨oc, od, dt, osl⟩ := ob
      rw [q] at h1
      cases od with
      | some _ => cases oc <;> cases dt <;> cases h1
      | none =>
      cases oc with
      | type c =>
        cases dt with
        | seq its n =>
          have h2 : (if (decide (c = "tuple") && decide (its.size ≤ sizeLine)) = true then strsOf its.toList else none) = some xs := h1
          split at h2
          · rename_i hh
            obtain ⟨h3, h4⟩ := ba2 hh
            have h3' := of_decide_eq_true h3
            subst h3'
            exact ⟨a, _, its, n, rfl, q, rfl, rfl, of_decide_eq_true h4, h2, rfl⟩
          · cases h2
        | _ => cases h1
      | _ => cases dt <;> cases h1
  | _ => cases h
/-- what the table is -/
structure Tab (P : Program) (w : World) (K : PySem.W.Frag) (a : Addr) (tb : List Row3) : Prop where
  ex : ∃ xs : List (List Key × Addr × Value), (∀ h : Heap, K.In h → h.DictOfH (knd P w) a xs) ∧ Paired (fun (x : List Key × Addr × Value) (t : Row3) => x.1 = Row3.key t ∧ ∃ b, x.2.2 = .ref b ∧ KTup K b (t.2.2.map V.str)) xs tb
  sm : (a == sysModules) = false
theorem rows_gen {K : PySem.W.Frag} {hf : List Key → Int} (es : List DictEntry) : ∀ tb : List Row3, es.map (fun e => (e.hash, tupAt K e.key, tupAt K e.val)) = tb.map (fun t => (hf (Row3.key t), some [t.1, t.2.1], some t.2.2)) →
    ∃ xs : List (List Key × Addr × Value), es = xs.map (fun x => ⟨hf x.1, .ref x.2.1, x.2.2⟩) ∧ (∀ x ∈ xs, ∃ s1 s2, x.1 = [.inr s1, .inr s2] ∧ tupAt K (.ref x.2.1) = some [s1, s2]) ∧ Paired (fun (x : List Key × Addr × Value) (t : Row3) => x.1 = Row3.key t ∧ tupAt K x.2.2 = some t.2.2) xs tb := by
  induction es with
  | nil =>
    intro tb h
    cases tb with
    | nil => exact ⟨[], rfl, fun _ h => (by cases h), .nil⟩
    | cons t tb => cases h
  | cons e es ih =>
    intro tb h
    cases tb with
    | nil => cases h
    | cons t tb =>
      rw [List.map_cons, List.map_cons] at h
      injection h with h0 h4
      injection h0 with h1 h5
      injection h5 with h2 h3
      obtain ⟨xs, q1, q2, q3⟩ := ih tb h4
      obtain ⟨a, oa, ia, na, ea, la, ca, da, za, sa, _⟩ := tupAt_ok h2
      obtain ⟨eh, ek, ev⟩ := e
      have ea' : ek = .ref a := ea
      have h1' : eh = hf (Row3.key t) := h1
      subst ea'
      subst h1'
      refine ⟨(Row3.key t, a, ev) :: xs, by rw [q1]; rfl, fun x hx => ?_, .cons ⟨rfl, h3⟩ q3⟩
      rcases List.mem_cons.mp hx with rfl | hx
      · exact ⟨t.1, t.2.1, rfl, h2⟩
      · exact q2 x hx
theorem is_key {P : Program} {w : World} {K : PySem.W.Frag} {a : Addr} {s1 s2 : Str} (h : tupAt K (.ref a) = some [s1, s2]) {hp : Heap} (X : K.In hp) : (knd P w).is hp [.inr s1, .inr s2] a := by
  obtain ⟨b, ob, ib, nb, eb, lb, cb, db, zb, sb, _⟩ := tupAt_ok h
  cases eb
  exact ⟨ob, ib, nb, X _ _ lb, cb, db, (strsOf_ok (P := P) (w := w) sb).2⟩
theorem ktup_of {K : PySem.W.Frag} {v : Value} {l : List Str} (h : tupAt K v = some l) : ∃ b, v = .ref b ∧ KTup K b (l.map V.str) := by
  obtain ⟨b, ob, ib, nb, eb, lb, cb, db, zb, sb, nd⟩ := tupAt_ok h
  have hv : ∀ {us : List Value} {xs : List Str}, strsOf us = some xs → Vals (xs.map V.str) us := by
    intro us
    induction us with
    | nil => intro xs h; cases h; exact .nil
    | cons u us ih =>
      intro xs h
      unfold strsOf at h
      split at h
      · rename_i x l h1 h2
        cases h
        unfold strOf at h1
        split at h1
        · cases h1
          exact .cons ⟨_, rfl⟩ (ih h2)
        · cases h1
      · cases h
  exact ⟨b, eb, ob, ib, nb, lb, cb, db, zb, hv sb, nd⟩
theorem tab_of {P : Program} {w : World} {K : PySem.W.Frag} {a : Addr} {tb : List Row3} (h : tabObs K a = tabVal P w tb) (hn : (tb.map Row3.key).Nodup) : Tab P w K a tb := by
  unfold tabObs tabVal at h
  cases q : K.lookup a with
  | none => rw [q] at h; cases h
  | some ob =>
    obtain ⟨oc, od, dt, osl⟩ := ob
    rw [q] at h
    cases oc with
    | type c =>
      cases od with
      | none =>
        cases dt with
        | dict es n =>
          have h1 : (if (decide (c = "dict") && (osl.isEmpty && !(a == sysModules))) = true then some (es.toList.map fun e => (e.hash, tupAt K e.key, tupAt K e.val)) else none) = some (tb.map fun t => ((knd P w).hash (Row3.key t), some [t.1, t.2.1], some t.2.2)) := h
          split at h1
          · rename_i hh
            obtain ⟨h2, h3⟩ := ba2 hh
            obtain ⟨h4, h5⟩ := ba2 h3
            obtain ⟨xs, r1, r2, r3⟩ := rows_gen (hf := (knd P w).hash) _ _ (Option.some.inj h1)
            have h2' := of_decide_eq_true h2
            subst h2'
            have h4' : osl = #[] := Array.isEmpty_iff.mp h4
            subst h4'
            refine ⟨⟨xs, fun hp X => ⟨_, es, n, X _ _ q, ⟨rfl, rfl, rfl⟩, rfl, r1, fun x hx => ?_, ?_⟩, L2.Paired.mapP r3 fun x t z => ⟨z.1, ktup_of z.2⟩⟩, by simpa using h5⟩
            · obtain ⟨s1, s2, e1, e2⟩ := r2 x hx
              rw [e1]
              exact is_key e2 X
            have e : xs.map (·.1) = tb.map Row3.key := by
              clear r1 r2 h1 h hn
              induction r3 with
              | nil => rfl
              | cons a b ih => rw [List.map_cons, List.map_cons, a.1, ih]
            rw [e]; exact hn
          · cases h1
        | _ => cases h
      | some b => cases dt <;> cases h
    | _ => cases od <;> cases dt <;> cases h
def tabFind (tb : List Row3) (x y : Str) : Option (List Str) := (tb.find? fun t => decide (Row3.key t = ([.inr x, .inr y] : List Key))).map (·.2.2)
theorem find_tab {K : PySem.W.Frag} {x y : Str} : ∀ {xs : List (List Key × Addr × Value)} {tb : List Row3}, Paired (fun (x : List Key × Addr × Value) (t : Row3) => x.1 = Row3.key t ∧ ∃ b, x.2.2 = .ref b ∧ KTup K b (t.2.2.map V.str)) xs tb →
    (tabFind tb x y = none ∧ atKey xs [.inr x, .inr y] = none) ∨ ∃ l a b, tabFind tb x y = some l ∧ atKey xs [.inr x, .inr y] = some (a, .ref b) ∧ KTup K b (l.map V.str)
  | _, _, .nil => .inl ⟨rfl, rfl⟩
  | z :: xs, t :: tb, .cons ⟨h1, b, h2, h3⟩ r => by
    obtain ⟨zk, za, zv⟩ := z
    cases h1
    cases h2
    by_cases e : Row3.key t = ([.inr x, .inr y] : List Key)
    · refine .inr ⟨t.2.2, za, b, ?_, ?_, h3⟩
      · unfold tabFind; rw [List.find?_cons_of_pos (by simpa using e)]; rfl
      · unfold atKey; rw [List.find?_cons_of_pos (by simpa using e)]; rfl
    · have e1 : tabFind (t :: tb) x y = tabFind tb x y := by unfold tabFind; rw [List.find?_cons_of_neg (by simpa using e)]
      have e2 : atKey ((Row3.key t, za, Value.ref b) :: xs) [.inr x, .inr y] = atKey xs [.inr x, .inr y] := by unfold atKey; rw [List.find?_cons_of_neg (by simpa using e)]
      rw [e1, e2]
      exact find_tab r
def tabNi (tb : List Row3) : D → Option D
  | .tup [.str x, .str y] => some (.bl (tabFind tb x y).isNone)
  | _ => none
def tabIx (tb : List Row3) : D → Option D
  | .tup [.str x, .str y] => (tabFind tb x y).map fun l => .tup (l.map .str)
  | _ => none
theorem strs_rv {K : PySem.W.Frag} {G : Hp} : ∀ {l : List Str}, RVs K G (l.map D.str) (l.map V.str)
  | [] => .nil
  | _ :: _ => .cons rv_str strs_rv
section
variable {X : Cx} {e : Expr} {me : ME} {pos p : Pos} {T : Str} {a : Addr} {tb : List Row3}
theorem key_at {pins : List (Addr × Obj)} {σ : L2.St} {H : Hp} {s : Shared} {q : Addr} {x y : Str} (I : Inv X pins σ H s) (h : SqT X.K H q [.str x, .str y]) : (knd X.prog X.w).is s.heap [.inr x, .inr y] q := by
  obtain ⟨its, rv, ⟨o, ho, hc, n, hd⟩, _⟩ := I.tuple h
  refine ⟨o, its.toArray, n, ho, hc, hd, ?_⟩
  cases rv with
  | cons r1 r2 =>
    cases r2 with
    | cons r3 r4 =>
      cases r4
      obtain ⟨t1, rfl⟩ := r1
      obtain ⟨t2, rfl⟩ := r3
      refine .cons ?_ (.cons ?_ .nil)
      · simp [mixKind, keyIs, Value.isStrOf]
      · simp [mixKind, keyIs, Value.isStrOf]
/-- e not in T -/
theorem st_tabNi (hu : X.A.units + 100 < cLine) (hT : Tab X.prog X.w X.K a tb) (hg : Gl X T) (hm : X.mg T = some (.ref a)) (he : SE X e me) (hmk : behindInMarks .NotIn (.Name T p) = false) (hdb : (T == ("__debug__" : Str)) = false := by decide) :
    ST X (.Compare e [.NotIn] [.Name T p] pos) (mB (mC1 (tabNi tb) me)) := by
  obtain ⟨⟨xs, hx1, hx2⟩, hsm⟩ := hT
  let r : R2 := fun x y H Q => ∃ q s1 s2, x = .ref q ∧ y = .ref a ∧ SqT X.K H q [.str s1, .str s2] ∧ Q (.bl (tabFind tb s1 s2).isNone) H
  have hr : ∀ E, OpR (X.wish E) (compareOp .NotIn) r := fun E => by
    intro pins s σ H x y v u Q I rx ry hq
    obtain ⟨q, s1, s2, rfl, rfl, h, hQ⟩ := hq
    obtain rfl : v = .ref q := rx
    obtain rfl : u = .ref a := ry
    show wpAny _ _ (do return Value.bool (!(← contains (.ref a) (.ref q)))) _ _ _
    refine wpAny_bind (wpAny_contains_heap (show X.A.units + 1 < cLine by omega) (key_at I h) hsm (hx1 _ I.kIn) ?_)
    refine wpAny_pure ⟨.bl (tabFind tb s1 s2).isNone, H, I.tok _, ?_, hQ⟩
    rcases find_tab (x := s1) (y := s2) hx2 with ⟨z1, z2⟩ | ⟨l, b0, b, z1, z2, _⟩
    · rw [z1, z2]; rfl
    · rw [z1, z2]; rfl
  refine ET.st (tf := fun Y => tOp r (wE Y e) (tC (.ref a))) (fun o σ H G own ρ α rr Q c nb hx kk => ?_) fun E => pt_cmpR (hr E) pe_w (pe_glob (X := X.wish E) (v := .ref a) hg hm rfl hdb) hmk
  refine he.we c (R.bind_nb nb) (Xle.bind.trans hx) fun d ρ1 v H1 G1 own1 e1 c1 x1 r1 => ?_
  unfold mC1 at nb hx kk
  rw [e1, R.bind_ok] at nb hx kk
  obtain ⟨d', e3, e4⟩ := opt_nb nb
  unfold tabNi at e3
  split at e3
  · cases e3
    rename_i s1 s2
    obtain ⟨q, ys, rfl, h1, h2⟩ := r1.tup_inv
    obtain ⟨v1, r2, rfl, q1, q2⟩ := h2.inv_cons
    obtain ⟨v2, r3, rfl, q3, q4⟩ := q2.inv_cons
    obtain rfl := q4.inv_nil
    obtain rfl := q1.str_inv
    obtain rfl := q3.str_inv
    exact ⟨q, s1, s2, rfl, rfl, c1.good.tup h1, kk _ ρ1 _ H1 G1 own1 e4 c1 x1 rv_bl⟩
  · cases e3
/-- T[e] -/
theorem se_tabIx (hu : X.A.units + 100 < cLine) (hT : Tab X.prog X.w X.K a tb) (hg : Gl X T) (hm : X.mg T = some (.ref a)) (he : SE X e me) (hs : PlainIx e := by intro _ _; rfl) (hdb : (T == ("__debug__" : Str)) = false := by decide) :
    SE X (.Subscript (.Name T p) e pos) (mC1 (tabIx tb) me) := by
  obtain ⟨⟨xs, hx1, hx2⟩, hsm⟩ := hT
  let r : R2 := fun y x H Q => ∃ q s1 s2 l, x = .ref q ∧ y = .ref a ∧ SqT X.K H q [.str s1, .str s2] ∧ tabFind tb s1 s2 = some l ∧ ∀ b, KTup X.K b (l.map V.str) → Q (.ref b) H
  have hr : ∀ E, IxR (X.wish E) r := fun E => by
    intro value slice pins s σ H y x u v Q I ry rx hq hs
    obtain ⟨q, s1, s2, l, rfl, rfl, h, hf, hQ⟩ := hq
    obtain rfl : v = .ref q := rx
    obtain rfl : u = .ref a := ry
    have hd := hx1 _ I.kIn
    rcases find_tab (x := s1) (y := s2) hx2 with ⟨z1, z2⟩ | ⟨l', b0, b, z1, z2, z3⟩
    · rw [z1] at hf; cases hf
    · rw [z1] at hf
      cases hf
      exact tail_any hd.typeIs PySem.F.slot_dict_getitem.lookup (wpAny_getItem_heap (show X.A.units + 1 < cLine by omega) (key_at I h) hd z2 ⟨.ref b, H, I.tok _, rfl, hQ b z3⟩) hs
  refine ET.se (tf := fun Y => tOp r (tC (.ref a)) (wE Y e)) (fun o σ H G own ρ α rr Q c nb hx kk => ?_) fun E => pe_ix (hr E) (pe_glob (X := X.wish E) (v := .ref a) hg hm rfl hdb) pe_w hs
  refine he.we c (R.bind_nb nb) (Xle.bind.trans hx) fun d ρ1 v H1 G1 own1 e1 c1 x1 r1 => ?_
  unfold mC1 at nb hx kk
  rw [e1, R.bind_ok] at nb hx kk
  obtain ⟨d', e3, e4⟩ := opt_nb nb
  unfold tabIx at e3
  split at e3
  · obtain ⟨l, f1, f2⟩ := Option.map_eq_some_iff.mp e3
    subst f2
    rename_i s1 s2
    obtain ⟨q, ys, rfl, h1, h2⟩ := r1.tup_inv
    obtain ⟨v1, r2, rfl, q1, q2⟩ := h2.inv_cons
    obtain ⟨v2, r3, rfl, q3, q4⟩ := q2.inv_cons
    obtain rfl := q4.inv_nil
    obtain rfl := q1.str_inv
    obtain rfl := q3.str_inv
    exact ⟨q, s1, s2, l, rfl, rfl, c1.good.tup h1, f1, fun b hb => kk _ ρ1 _ H1 G1 own1 e4 c1 x1 (rv_tup (.inr hb) strs_rv)⟩
  · cases e3
end
end DL

set_option maxRecDepth 100000
set_option maxHeartbeats 1000000
/-! defs, methods, classes by numbers: what is asked of the written part, what follows -/
namespace DL
open PySem PySem.Spec L2
open PyProof.Rows hiding St
abbrev qAttr (cl : List Addr) (f : Str) (q : Env → Option C) : Env → Option C := fun ρ => (q ρ).bind (attrC cl f)
theorem Room.u100 {k : Nat} {A : Around} (r : Room k A) : A.units + 100 < cLine := by have := r.un; omega
def clsBody : Stmt → List Stmt
  | .ClassDef _ _ _ body _ _ _ _ _ _ _ => body
  | _ => []
/-! ### shorter premises -/
def noStar : Expr → Bool
  | .Starred _ _ => false
  | _ => true
theorem star_cons {e : Expr} {es : List Expr} {env : PySem.Env} (h : noStar e = true) : starEach (e :: es) env = (false, eval e env) :: starEach es env := by
  cases e <;> first | rfl | cases h
section
variable {X : Cx} {e : Expr} {es : List Expr} {m : ME} {mas : MA} {ma : Env → R Ar} {mar : Env → R (List Ar)}
theorem sa_c (hn : noStar e = true) (h : SE X e m) (t : SA X es mas) : SA X (e :: es) (mCons m mas) := sa_cons h t (star_cons hn)
theorem ars_c (hn : noStar e = true) (h : SAr1 X e ma) (t : SAr X es mar) : SAr X (e :: es) (aCons ma mar) := ars_cons h t (star_cons hn)
end
/-! ### a block's names -/
def blkB (N : List Str) (sc scope : Scope) (own : List (Str × Nat)) : Bool :=
  decide (scope.kind = .function) && (scope.names.all (fun y => decide (scope.names.lookup y.1 = some y.2)) && (own.all (fun p => decide (N[p.2]? = some p.1)) &&
  (scope.names.all (fun y => !decide (y.2 = .free) || (decide (sc.names.lookup y.1 = some .cell) || decide (sc.names.lookup y.1 = some .free))) &&
   scope.names.all (fun y => !(decide (y.2 = .local) || decide (y.2 = .cell)) || (decide (y.1 ∈ own.map (·.1)) || !decide (y.1 ∈ N))))))
theorem blkOk_of {N : List Str} {sc scope : Scope} {own : List (Str × Nat)} (h : blkB N sc scope own = true) : BlkOk N sc scope own := by
  obtain ⟨h1, h⟩ := ba2 h
  obtain ⟨h2, h⟩ := ba2 h
  obtain ⟨h3, h⟩ := ba2 h
  obtain ⟨h4, h5⟩ := ba2 h
  refine ⟨of_decide_eq_true h1, fun y hy => of_decide_eq_true (List.all_eq_true.mp h2 y hy), fun p hp => of_decide_eq_true (List.all_eq_true.mp h3 p hp), fun y hy e => ?_, fun y hy e => ?_⟩
  · have := List.all_eq_true.mp h4 y hy
    simp [e] at this
    exact this
  · have := List.all_eq_true.mp h5 y hy
    rcases e with e | e <;> (simp [e] at this; simpa using this)
/-! ### the facts -/
def noB (K : PySem.W.Frag) (C : Addr) (f : Str) : Bool := PySem.W.plainGet K C Str.empty && (PySem.W.hasDictIn K C && (PySem.W.plainOver K C && (decide (PySem.W.findIn K (.ref C) "__setattr__" = some (some (.builtin "object.__setattr__"))) && decide (PySem.W.findIn K (.ref C) f = some none))))
theorem noB_ok {K : PySem.W.Frag} {C : Addr} {f : Str} (h : noB K C f = true) : L2.Cls K C ∧ L2.NoAttr K C f := by
  obtain ⟨h1, h⟩ := ba2 h
  obtain ⟨h2, h⟩ := ba2 h
  obtain ⟨h3, h⟩ := ba2 h
  obtain ⟨h4, h5⟩ := ba2 h
  exact ⟨⟨h1, h2, h3, of_decide_eq_true h4⟩, show PySem.W.findIn K (.ref C) f = some none from of_decide_eq_true h5⟩
def methB (K : PySem.W.Frag) (C : Addr) (m : Str) (f : Addr) : Bool := decide (PySem.W.findIn K (.ref C) m = some (some (.ref f))) && (PySem.W.isFn K (.ref f) && PySem.W.keepIn K (.ref f))
theorem methB_ok {K : PySem.W.Frag} {C f : Addr} {m : Str} (h : methB K C m f = true) : L2.Meth K C m f := by
  obtain ⟨h1, h⟩ := ba2 h
  obtain ⟨h2, h3⟩ := ba2 h
  exact ⟨of_decide_eq_true h1, h2, h3⟩
def mkB (K : PySem.W.Frag) (C f : Addr) : Bool := PySem.W.makesIn K C && (decide (PySem.W.findIn K (.ref C) "__init__" = some (some (.ref f))) && (PySem.W.isFn K (.ref f) && PySem.W.keepIn K (.ref C)))
theorem mkB_ok {K : PySem.W.Frag} {C f : Addr} (h : mkB K C f = true) : L2.Mk K C f := by
  obtain ⟨h1, h⟩ := ba2 h
  obtain ⟨h2, h⟩ := ba2 h
  obtain ⟨h3, h4⟩ := ba2 h
  exact ⟨h1, of_decide_eq_true h2, h3, h4⟩
def eqfB (K : PySem.W.Frag) (C f : Addr) : Bool := decide (PySem.W.findIn K (.ref C) "__eq__" = some (some (.ref f))) && PySem.W.isFn K (.ref f)
theorem eqfB_ok {K : PySem.W.Frag} {C f : Addr} (h : eqfB K C f = true) : PySem.W.findIn K (.ref C) "__eq__" = some (some (.ref f)) ∧ PySem.W.isFn K (.ref f) = true := ⟨of_decide_eq_true (ba2 h).1, (ba2 h).2⟩
def neB (K : PySem.W.Frag) (C : Addr) : Bool := decide (PySem.W.findIn K (.ref C) "__ne__" = some (some (.builtin "object.__ne__"))) && decide (PySem.W.subIn K (.ref C) (.type "object") = some true)
theorem neB_ok {K : PySem.W.Frag} {C : Addr} (h : neB K C = true) : PySem.W.findIn K (.ref C) "__ne__" = some (some (.builtin "object.__ne__")) ∧ PySem.W.subIn K (.ref C) (.type "object") = some true := ⟨of_decide_eq_true (ba2 h).1, of_decide_eq_true (ba2 h).2⟩
def stGet (C f : Addr) (K : PySem.W.Frag) : Option PySem.W.CFound → Bool
  | some (.get (.builtin b) (.ref p) .none (.ref C')) => decide (b = "staticmethod.__get__") && (decide (C' = C) && (match PySem.W.recIn K p "staticmethod" with
    | some (.ref f' :: _) => decide (f' = f)
    | _ => false))
  | _ => false
def stB (K : PySem.W.Frag) (C f : Addr) (m : Str) : Bool := decide (PySem.W.specialIn K (.ref C) "__getattribute__" = some (some (.builtin "type.__getattribute__"))) && (PySem.W.readsIn K C (.type "type") && (PySem.W.keepIn K (.ref f) && stGet C f K (PySem.W.findCls K (.ref C) (.type "type") m)))
theorem stB_ok {K : PySem.W.Frag} {C f : Addr} {m : Str} (h : stB K C f m = true) : Stm K C f m := by
  obtain ⟨h1, h⟩ := ba2 h
  obtain ⟨h2, h⟩ := ba2 h
  obtain ⟨h3, h4⟩ := ba2 h
  unfold stGet at h4
  split at h4
  · rename_i b p C' e
    obtain ⟨h5, h⟩ := ba2 h4
    obtain ⟨h6, h7⟩ := ba2 h
    have e1 := of_decide_eq_true h5
    have e2 := of_decide_eq_true h6
    subst e1 e2
    split at h7
    · rename_i f' r e3
      have e4 := of_decide_eq_true h7
      subst e4
      exact ⟨of_decide_eq_true h1, ⟨_, p, r, h2, e, e3⟩, h3⟩
    · cases h7
  · cases h4
def oxCls (b : Bas) (C : Addr) : Option Obj → Bool
  | some ⟨.type t, _, .cls cd, sl⟩ => decide (t = "type") && (!cd.hasDel && (cd.hasDict && ((match cd.mro with
    | .ref C' :: bm => decide (C' = C) && (bm.dropWhile isRefV == b.tl)
    | _ => false) && (match sl.toList with
    | [_, _, _, _, some (.builtin n), _] => decide (n = b.newId)
    | _ => false))))
  | _ => false
def oxB1 (b : Bas) (K : PySem.W.Frag) (C : Addr) : Bool := oxCls b C (K.lookup C) && (decide (PySem.W.findIn K (.ref C) "__setattr__" = some (some (.builtin "object.__setattr__"))) && (decide (PySem.W.subIn K (.ref C) (.type "BaseException") = some true) && (decide (PySem.W.typeIn K (.ref C) = some (.type "type")) && PySem.W.keepIn K (.ref C))))
def oxB (K : PySem.W.Frag) (C : Addr) (fn : Str) : Bool := (oxB1 baV K C || oxB1 baO K C) && decide (PySem.W.findIn K (.ref C) fn = some none)
structure ExcB (K : PySem.W.Frag) (C : Addr) (fn : Str) : Prop where
  ox : ∃ b, OexG b K C
  no : PySem.W.findIn K (.ref C) fn = some none
theorem oxB1_ok {b : Bas} (hb : BasOk b) {K : PySem.W.Frag} {C : Addr} (h : oxB1 b K C = true) : OexG b K C := by
  obtain ⟨h1, h⟩ := ba2 h
  obtain ⟨h2, h⟩ := ba2 h
  obtain ⟨h3, h⟩ := ba2 h
  obtain ⟨h4, h5⟩ := ba2 h
  refine ⟨hb, ?_, of_decide_eq_true h2, of_decide_eq_true h3, of_decide_eq_true h4, h5⟩
  generalize hq : K.lookup C = ob at h1
  unfold oxCls at h1
  split at h1
  · rename_i t dd cd sl
    obtain ⟨a1, h⟩ := ba2 h1
    obtain ⟨a2, h⟩ := ba2 h
    obtain ⟨a3, h⟩ := ba2 h
    obtain ⟨a4, a5⟩ := ba2 h
    have e1 := of_decide_eq_true a1
    subst e1
    obtain ⟨nm, bs, mro, N, q, hd, sn, sub, ab, col, del⟩ := cd
    split at a4
    · rename_i C' bm e2
      obtain ⟨b1, b2⟩ := ba2 a4
      have e3 := of_decide_eq_true b1
      subst e3
      split at a5
      · rename_i k0 k1 k2 k3 n k5 e4
        have e5 := of_decide_eq_true a5
        subst e5
        have e6 : sl = #[k0, k1, k2, k3, some (.builtin b.newId), k5] := by rw [← e4]
        have e7 : hd = true := a3
        have e8 : del = false := by simpa using a2
        have e9 : mro = .ref C' :: bm := e2
        subst e6 e7 e8 e9
        exact ⟨nm, q, N, bs, bm, sn, sub, ab, col, dd, k0, k1, k2, k3, k5, rfl, over_of b2⟩
      · cases a5
    · cases a4
  · cases h1
theorem oxB_ok {K : PySem.W.Frag} {C : Addr} {fn : Str} (h : oxB K C fn = true) : ExcB K C fn := by
  obtain ⟨h1, h6⟩ := ba2 h
  refine ⟨?_, of_decide_eq_true h6⟩
  rcases Bool.or_eq_true_iff.mp h1 with h | h
  · exact ⟨_, oxB1_ok baV_ok h⟩
  · exact ⟨_, oxB1_ok baO_ok h⟩
/-! ### a def: where it stands, what it says -/
structure DefA where
  at_ : Addr
  name : Str
  qual : Str
  params : Arguments
  body : List Stmt
  scope : Scope
  clo : List (Str × Addr) := []
abbrev FnW : Type := Option (Str × Str × Arguments × FuncBody × Scope × Addr × List (Str × Addr) × Value × Addr)
def fnObs (K : PySem.W.Frag) (a : Addr) : FnW := match K.lookup a with
  | some ⟨_, _, .func fd, _⟩ => some (fd.name, fd.qualname, fd.params, fd.body, fd.scope, fd.globals, fd.closure, fd.defaults, fd.builtins)
  | _ => none
def DefA.val (d : DefA) : FnW := some (d.name, d.qual, d.params, .stmts d.body, d.scope, mainGlobals, d.clo, .none, builtinsNs)
def DefA.ok (K : PySem.W.Frag) (d : DefA) : Bool := PySem.W.keepIn K (.ref d.at_) && (match K.lookup d.at_ with
  | some ⟨_, _, .func fd, _⟩ => PySem.W.codeIn K fd.code d.qual
  | _ => false)
def FunA (K : PySem.W.Frag) (d : DefA) : Prop := ∃ oc od kV doc pm an cdv ct osl, K.lookup d.at_ = some ⟨oc, od, .func (PySem.W.fnX d.name d.qual d.params d.body d.scope d.clo .none kV doc pm an cdv ct), osl⟩ ∧ PySem.W.codeIn K cdv d.qual = true ∧ PySem.W.keepIn K (.ref d.at_) = true
theorem funA_of {K : PySem.W.Frag} {d : DefA} (e : fnObs K d.at_ = d.val) (c : d.ok K = true) : FunA K d := by
  obtain ⟨kp, c2⟩ := ba2 c
  unfold fnObs at e
  unfold FunA
  cases q : K.lookup d.at_ with
  | none => rw [q] at c2; cases c2
  | some o =>
    obtain ⟨oc, od, dt, osl⟩ := o
    rw [q] at c2 e
    cases dt with
    | func fd =>
      obtain ⟨n1, n2, n3, n4, n5, n6, n7, n8, n9, n10, n11, n12, n13, n14, n15⟩ := fd
      have e2 : (some (n1, n2, n3, n4, n5, n6, n7, n8, n15) : FnW) = some (d.name, d.qual, d.params, .stmts d.body, d.scope, mainGlobals, d.clo, .none, builtinsNs) := e
      simp only [Option.some.injEq, Prod.mk.injEq] at e2
      obtain ⟨h1, h2, h3, h4, h5, h6, h7, h8, h9⟩ := e2
      subst h1 h2 h3 h4 h5 h6 h7 h8 h9
      exact ⟨oc, od, n9, n10, n11, n12, n13, n14, osl, rfl, c2, kp⟩
    | _ => cases c2
section
variable {P : Program} {w : World} {K : PySem.W.Frag} {mg : Str → Option Value} {base : Heap} {d : DefA} {N ps : List Str} {m : MS} {j k np : Nat} {den : Den} {C : Addr} {x : Str}
/-- the def keeps its promise -/
structure OkF (P : Program) (w : World) (K : PySem.W.Frag) (mg : Str → Option Value) (base : Heap) (k : Nat) (d : DefA) (np : Nat) (den : Den) : Prop where
  fn : ∃ fd ps, FnOk P w K mg base (L2.CX P w) k d.at_ fd ps (spD K np den) ∧ Binds K fd ps []
  kp : PySem.W.keepIn K (.ref d.at_) = true
structure OkFG (P : Program) (w : World) (K : PySem.W.Frag) (mg : Str → Option Value) (base : Heap) (k : Nat) (d : DefA) (np : Nat) (den : Den) : Prop where
  fn : ∃ fd ps, FnOkG P w K mg base (L2.CX P w) k d.at_ fd ps (spD K np den) ∧ Binds K fd ps []
  kp : PySem.W.keepIn K (.ref d.at_) = true
theorem OkF.mk' (F : FunA K d) (S : FnScope N ps d.scope) (hb : ∀ (kV doc pm : Value) (an : Option Addr) (cdv ct : Value) (us : List Value), us.length = ps.length → bindArgs (PySem.W.fnX d.name d.qual d.params d.body d.scope [] .none kV doc pm an cdv ct) ⟨us, []⟩ = pure (ps.zip us))
    (h : ∀ (cdv : Value) (A : Around) (outer : List PySem.Env) (s : Shared) (H : Hp) (E : XK), Room j (A.deeper (envOfC d.qual d.scope s.heap.objs.size d.at_ cdv)) → SSs (cxOf (L2.CX P w) P w K mg base N d.qual d.scope d.at_ cdv A outer s H E) ps.length d.body m) (hc : d.clo = [] := by rfl) (hk : k = j + 1 := by rfl) (hn : np = ps.length := by rfl) (hd : den = denOf N.length ps.length m := by rfl) :
    OkF P w K mg base k d np den := by
  obtain ⟨oc, od, kV, doc, pm, an, cdv, ct, osl, lk, hcd, kp⟩ := F
  subst hk hn hd
  rw [hc] at lk
  exact ⟨⟨_, ps, fn_den lk hcd S fun A outer s H E hr => h cdv A outer s H E hr, .all (hb kV doc pm an cdv ct)⟩, kp⟩
theorem OkFG.mk' (F : FunA K d) (S : FnScope N ps d.scope) (hb : ∀ (kV doc pm : Value) (an : Option Addr) (cdv ct : Value) (us : List Value), us.length = ps.length → bindArgs (PySem.W.fnX d.name d.qual d.params d.body d.scope [] .none kV doc pm an cdv ct) ⟨us, []⟩ = pure (ps.zip us))
    (h : ∀ (cdv : Value) (A : Around) (outer : List PySem.Env) (s : Shared) (H : Hp) (E : XK), A.guards = some [] → Room j (A.deeper (envOfC d.qual d.scope s.heap.objs.size d.at_ cdv)) → SSs (cxOf (L2.CX P w) P w K mg base N d.qual d.scope d.at_ cdv A outer s H E) ps.length d.body m) (hc : d.clo = [] := by rfl) (hk : k = j + 1 := by rfl) (hn : np = ps.length := by rfl) (hd : den = denOf N.length ps.length m := by rfl) :
    OkFG P w K mg base k d np den := by
  obtain ⟨oc, od, kV, doc, pm, an, cdv, ct, osl, lk, hcd, kp⟩ := F
  subst hk hn hd
  rw [hc] at lk
  exact ⟨⟨_, ps, fn_denG lk hcd S fun A outer s H E gd hr => h cdv A outer s H E gd hr, .all (hb kV doc pm an cdv ct)⟩, kp⟩
/-- a def of which nothing is known -/
theorem OkF.zero (F : FunA K d) (S : FnScope N ps d.scope) (hb : ∀ (kV doc pm : Value) (an : Option Addr) (cdv ct : Value) (us : List Value), us.length = ps.length → bindArgs (PySem.W.fnX d.name d.qual d.params d.body d.scope [] .none kV doc pm an cdv ct) ⟨us, []⟩ = pure (ps.zip us)) (hc : d.clo = [] := by rfl) (hn : np = ps.length := by rfl) : OkF P w K mg base k d np fun _ => .bad := by
  obtain ⟨oc, od, kV, doc, pm, an, cdv, ct, osl, lk, hcd, kp⟩ := F
  subst hn
  exact ⟨⟨PySem.W.fnX d.name d.qual d.params d.body d.scope [] .none kV doc pm an cdv ct, ps, ⟨fun vs H Q E h => h.1, fun A outer s H args us vs Q E hr e0 hbd r h => by
    obtain ⟨_, _, _, _, _, _, z, _⟩ := h
    exact absurd rfl z⟩, .all (hb kV doc pm an cdv ct)⟩, kp⟩
theorem OkF.fn' (h : OkF P w K mg base k d np den) (hm : mg x = some (.ref d.at_)) : Fn P w K mg base k x np den := by
  obtain ⟨⟨fd, ps, F, b⟩, kp⟩ := h
  exact ⟨d.at_, fd, ps, F, hm, kp, b⟩
theorem OkFG.fn' (h : OkFG P w K mg base k d np den) (hm : mg x = some (.ref d.at_)) : FnG P w K mg base k x np den := by
  obtain ⟨⟨fd, ps, F, b⟩, kp⟩ := h
  exact ⟨d.at_, fd, ps, F, hm, kp, b⟩
theorem OkF.mt (h : OkF P w K mg base k d np den) (c : L2.Cls K C) (hm : L2.Meth K C x d.at_) : Mt P w K mg base k C x np den := by
  obtain ⟨⟨fd, ps, F, b⟩, kp⟩ := h
  exact ⟨c, d.at_, fd, ps, F, hm, b⟩
theorem OkF.mkr (h : OkF P w K mg base k d np den) (hm : L2.Mk K C d.at_) (hg : mg x = some (.ref C)) : Mkr P w K mg base k x C np den := by
  obtain ⟨⟨fd, ps, F, b⟩, kp⟩ := h
  exact ⟨d.at_, fd, ps, F, hm, hg, b⟩
theorem OkF.eqc (h : OkF P w K mg base k d 2 den) (hm : PySem.W.findIn K (.ref C) "__eq__" = some (some (.ref d.at_)) ∧ PySem.W.isFn K (.ref d.at_) = true) : EqC P w K mg base k C den := by
  obtain ⟨⟨fd, ps, F, b⟩, kp⟩ := h
  exact ⟨d.at_, fd, ps, F, hm.1, hm.2, b⟩
theorem OkF.sm {mn : Str} (h : OkF P w K mg base k d np den) (hg : mg x = some (.ref C)) (hm : Stm K C d.at_ mn) : Sm P w K mg base k x mn np den := by
  obtain ⟨⟨fd, ps, F, b⟩, kp⟩ := h
  exact ⟨C, d.at_, fd, ps, F, hg, hm, b⟩
end
/-! ### exceptions of the program: their __init__ is the base's, which calls super's and keeps its argument -/
def boxB (P : Program) (K : PySem.W.Frag) (f cc D : Addr) : Bool := (match K.lookup f with
  | some ⟨_, _, .func fd, _⟩ => (match fd.code with
    | .ref cda => (match K.lookup cda with
      | some ⟨_, _, .fields vs, _⟩ => (match vs[2]? with
        | some (Value.str z _) => (P.main.file : Str) == z
        | _ => false)
      | _ => false)
    | _ => false)
  | _ => false) && ((match K.lookup cc with
  | some ⟨_, _, .cell (some (.ref D')), _⟩ => decide (D' = D)
  | _ => false) && ((PySem.W.clsIn K D).isSome && (decide (PySem.W.nsIn K cStatics "thirdparty.any" = some none) && decide (PySem.W.typeIn K (.ref f) = some (.type "function")))))
def supB1 (b : Bas) (K : PySem.W.Frag) (D C : Addr) : Bool := oxB1 b K C && (decide (PySem.W.mroIn K C (.ref D) = some true) && (decide (PySem.W.ks_superIn K C D "__init__" = some (some (.builtin b.initId))) && decide (PySem.W.subIn K (.ref C) (.type b.B) = some true)))
def supB (K : PySem.W.Frag) (D C f : Addr) : Bool := (supB1 baV K D C || supB1 baO K D C) && decide (PySem.W.findIn K (.ref C) "__init__" = some (some (.ref f)))
theorem supB1_ok {b : Bas} (hb : BasOk b) {K : PySem.W.Frag} {D C : Addr} (h : supB1 b K D C = true) : supO K D C := by
  obtain ⟨h1, h⟩ := ba2 h
  obtain ⟨h2, h⟩ := ba2 h
  obtain ⟨h3, h4⟩ := ba2 h
  exact ⟨b, oxB1_ok hb h1, of_decide_eq_true h2, of_decide_eq_true h3, of_decide_eq_true h4⟩
theorem exk_of {P : Program} {w : World} {K : PySem.W.Frag} {mg : Str → Option Value} {base : Heap} {d : DefA} {k : Nat} {C D cc : Addr} {x told : Str} {ar : Arg} {p0 p1 p2 p3 p4 p5 p6 p7 p8 p9 : Pos} {pl : PySem.Env → Sem Bool} (F : FunA K d) (hB : boxB P K d.at_ cc D = true) (hS : supB K D C d.at_ = true) (E : ExcB K C told)
    (hg : mg x = some (.ref C)) (hsu : mg "super" = none) (hclo : d.clo = [(("__class__" : Str), cc)]) (hbody : d.body = boxBody told p0 p1 p2 p3 p4 p5 p6 p7 p8 p9) (hpar : (d.params.posonlyargs ++ d.params.args).head? = some ar) (har : ar.arg = "self") (htop : (P.main.scope.names.lookup ("super" : Str)).isSome = false)
    (h1 : d.scope.names.lookup ("self" : Str) = some .local) (h2 : d.scope.names.lookup told = some .local) (h3 : d.scope.names.lookup ("__class__" : Str) = some .free) (h4 : d.scope.names.lookup ("super" : Str) = some .globalImplicit)
    (nocell : ∀ x ∈ d.scope.names, x.2 ≠ .cell) (fr1 : ∀ x ∈ d.scope.names, x.2 = .free → x.1 = "__class__") (hk : d.scope.kind = .function) (hco : d.scope.isCoroutine = false) (hgen : d.scope.isGenerator = false)
    (hev : ∀ env : PySem.Env, eval (.Call (.Attribute (.Call (.Name "super" p0) [] [] p1) "__init__" p2) [.Name told p3] [] p4) env = (do
      let ov ← attributeBase (.Call (.Name "super" p0) [] [] p1) "__init__" env (eval (.Call (.Name "super" p0) [] [] p1) env)
      standAt p2.atName
      let (g, first) ← holding [ov] (getMethod ov "__init__" (pl env))
      callWith p4 g first (backTo p4 (starEach [.Name told p3] env)) []))
    (hne : told ≠ "self") (hd : (told == ("__debug__" : Str)) = false) (hcdn : (told == ("__classdict__" : Str)) = false)
    (hb : ∀ (kV doc pm : Value) (an : Option Addr) (cdv ct : Value) (us : List Value), us.length = (["self", told] : List Str).length → bindArgs (PySem.W.fnX d.name d.qual d.params d.body d.scope d.clo .none kV doc pm an cdv ct) ⟨us, []⟩ = pure ((["self", told] : List Str).zip us)) : Exk P w K mg base k x C told := by
  obtain ⟨oc, od, kV, doc, pm, an, cdv, ct, osl, lk, hcd, kp⟩ := F
  obtain ⟨b1, b⟩ := ba2 hB
  obtain ⟨b2, b⟩ := ba2 b
  obtain ⟨b3, b⟩ := ba2 b
  obtain ⟨b4, b5⟩ := ba2 b
  obtain ⟨s1, s4⟩ := ba2 hS
  have sO : supO K D C := by
    rcases Bool.or_eq_true_iff.mp s1 with h | h
    · exact supB1_ok baV_ok h
    · exact supB1_ok baO_ok h
  rw [lk] at b1
  obtain ⟨cdD, hD⟩ := Option.isSome_iff_exists.mp b3
  cases qc : K.lookup cc with
  | none => rw [qc] at b2; cases b2
  | some ob =>
    obtain ⟨o1, o2, o3, o4⟩ := ob
    rw [qc] at b2
    cases o3 with
    | cell v =>
      cases v with
      | none => cases b2
      | some v =>
        cases v with
        | ref D' =>
          have eD : D' = D := of_decide_eq_true b2
          subst eD
          cases cdv with
          | ref cda =>
            have b1' : (match K.lookup cda with
              | some ⟨_, _, .fields vs, _⟩ => (match vs[2]? with
                | some (Value.str z _) => (P.main.file : Str) == z
                | _ => false)
              | _ => false) = true := b1
            cases qa : K.lookup cda with
            | none => rw [qa] at b1'; cases b1'
            | some oa =>
              obtain ⟨a1, a2, a3, a4⟩ := oa
              rw [qa] at b1'
              cases a3 with
              | fields vs =>
                have b6 : (match vs[2]? with
                  | some (Value.str z _) => (P.main.file : Str) == z
                  | _ => false) = true := b1'
                split at b6
                · rename_i z tf e
                  have hbb := hb kV doc pm an (.ref cda) ct
                  rw [hclo, hbody] at lk hbb
                  exact ⟨E.ox, E.no, hg, ⟨d.at_, _, ["self", told], supO K D', box_init (k := k) (pl := pl) lk hcd qa e b6 htop qc hD (of_decide_eq_true b4) hsu hpar har h1 h2 h3 h4 nocell fr1 hk hco hgen hev hne hd hcdn,
                    sO, of_decide_eq_true s4, of_decide_eq_true b5, .all hbb⟩⟩
                · cases b6
              | _ => cases b1'
          | _ => cases b1
        | _ => cases b2
    | _ => cases b2
end DL

set_option maxRecDepth 100000
set_option maxHeartbeats 4000000
namespace Hx
open PySem PySem.W PySem.Calls PyProof.Rows

/-! ### from a run of the top to the law -/
/-- what stands behind the top, of whatever road -/
def Beh (p q : Program) (loose : List Str) (YP : World → Heap → Prop) : Prop := ∀ w : World, (∃ s, AfterRun (opening p) w s) ∧ ∀ s, AfterRun (opening p) w s →
  ∃ s0, fenceModules? p s = some s0 ∧ s0.gens = #[] ∧ ∃ s1, TopRan p w s0 s1 ∧ s1.asleep ∧ s1.gens = #[] ∧ s1.heap.isNs mainGlobals = true ∧
    Ground q loose [] (XL q []) w s1 (s1.heap.nsMap mainGlobals) (s1.heap.nsMap builtinsNs) s1.heap ∧ YP w s1.heap

theorem claim_of {r : RowW} {q : Program} {loose ds ks : List Str} {wr : Bool} {YP : World → Heap → Prop} {run : Value → List Value → Sem Value} {tree : List Value → Sem Fin} (B : Beh r.prog q loose YP) (hr : r.records = [])
    (hYk : ∀ w h h', YP w h → (∀ b o, h.get? b = some o → h'.get? b = some o) → YP w h') (ok : (opensWell r.prog && (frees r && r.within.isEmpty)) = true) (hb : r.prog.bare) (hw : r.promised)
    (ht : ∀ vs (w : World) (s : Shared) mg f (Q : Fin → Shared → Prop) (E : Value → Shared → Prop), s.heap.Ns mainGlobals mg → mg r.name = some f → wpAny (model r.prog w) callerA (run f vs) (fun v s' => Q (.done (.ret v)) s') E s → wpAny (model r.prog w) callerA (tree vs) Q E s)
    (pin : ∀ w s, s.heap.isNs mainGlobals = true → Ground q loose [] (XL q []) w s (s.heap.nsMap mainGlobals) (s.heap.nsMap builtinsNs) s.heap → ∀ n ∈ ds, isTheDefsW r.prog s.heap n)
    (call : ∀ (w : World) (s0 s1 : Shared) (mg mb : Str → Option Value), Ground q loose r.records (XL q []) w s0 mg mb s1.heap → YP w s1.heap → ∀ (args : List WData) (vs : List Value) (as : List Addr),
      r.claim.pre args = true → WData.layableAll args = true → Laid r.records w s0 s1 args vs as → sysModules < s0.heap.objs.size → ∃ f, mg r.name = some f ∧
        wpAny (model r.prog w) callerA (run f vs) (fun v s' => GoodWG r.claim (classAt s0.heap) (ExcName.means s0.heap) args s1 (.ok (.ret v)) s')
          (fun e s' => GoodWG r.claim (classAt s0.heap) (ExcName.means s0.heap) args s1 (.error e) s') s1) :
    r.claim.HoldsOpenBy (fun vs => ⟨tree vs, .builtin "claim.caller" {}, default, []⟩) ds ks wr := by
  obtain ⟨o1, k5⟩ := Bool.and_eq_true_iff.mp ok
  obtain ⟨kf, kw⟩ := Bool.and_eq_true_iff.mp k5
  obtain ⟨h1, h2, h3, h4, h5⟩ := frees_parts kf
  have noW : r.claim.within = [] := List.isEmpty_iff.mp kw
  have anyI := ident_freeW h2 h3 h4
  have empt : (!wr || r.records.isEmpty) = true := by
    rw [hr]
    cases wr <;> rfl
  refine ⟨⟨hb, o1, ?_⟩, hw.witness, fun w => ⟨(B w).1, fun sa ha => ?_⟩⟩
  · show r.makers.map _ = []
    rw [h5]
    rfl
  · obtain ⟨s0, hf, hg0, s, hT, hz, hgens, hg, G0, y⟩ := (B w).2 sa ha
    have RF : RecFacts r.records s.heap := recFacts_nil hr
    have G : Ground q loose r.records (XL q []) w s _ _ s.heap := RF.ground G0
    refine ⟨s0, hf, hg0, s, hT, pin w s hg G0, RF.1, RF.2.1, ClaimW.callFrom_of_specG (c := r.claim) hz hgens fun args hpre hlay ord hord => ?_⟩
    obtain ⟨⟨vs, s1⟩, hlaid⟩ := Option.isSome_iff_exists.mp (layAllW_isSome (P := w.params) (ord := ord) G.has args r.args s (pre_splitW hpre).1)
    have kk := layAllW_keeps _ _ _ hlaid
    have rest := layAllW_rest _ _ _ hlaid
    obtain ⟨as, hrd, hin, hold⟩ := reads_layAllW hord _ _ _ hlaid hlay s1.heap fun _ _ e => e
    have L : Laid r.records w s s1 args vs as := ⟨⟨ord, hord, hlaid⟩, hrd, hin, hold, kk, rest.1.trans hgens, rest.2.2.1⟩
    have G1 := G.keeps XL.keeps kk
    obtain ⟨f, hfn, h⟩ := call w s s1 _ _ G1 (hYk _ _ _ y kk) args vs as hpre hlay L G.low
    have fin : ∀ {x : Result} {s' : Shared}, GoodWG r.claim (classAt s.heap) (ExcName.means s.heap) args s1 x s' → _ := fun g => g.laid (c := r.claim) h1 noW anyI L
    refine ⟨vs, s1, hlaid, ht vs w s1 _ f _ _ G1.T.g hfn (wpAny_mono h (fun v s' g => ⟨_, rfl, ?_⟩) fun e s' g => ?_)⟩
    · have z := fin g
      exact ⟨z.1, z.2.1, z.2.2, fun e => ⟨namesKept_of hT hg ks kk g.2.1.old, noTable empt e⟩⟩
    · have z := fin g
      exact ⟨z.1, z.2.1, z.2.2, fun e => ⟨namesKept_of hT hg ks kk g.2.1.old, noTable empt e⟩⟩
theorem holds_beh {r : OpenRow} {q : Program} {loose : List Str} {YP : World → Heap → Prop} {d : DefRec} {kwd : List (Str × Expr)} (B : Beh r.prog q loose YP) (hr : r.records = [])
    (hYk : ∀ w h h', YP w h → (∀ b o, h.get? b = some o → h'.get? b = some o) → YP w h') (hdef : defOf q r.name = some (d, kwd)) (hp : r.prog.theDef r.name = some (d.params, d.body, d.scope)) (hk : kwWritten? d.params.kwonlyargs d.params.kw_defaults = some kwd)
    (k1 : r.wellSaid = true) (ok : (opensWell r.prog && (frees r.toRowW && r.within.isEmpty)) = true) (hb : r.prog.bare) (hw : r.toRowW.promised) (call : WalkO q loose (XL q []) YP r.toRowW d kwd fun f vs => PySem.call f vs) : r.Holds := by
  refine ⟨k1, hw, claim_of (r := r.toRowW) (run := fun f vs => PySem.call f vs) (tree := fun vs => do match ← nsGet mainNs r.name with
      | some f => do ret (← PySem.call f vs)
      | none => unsupported "claim.caller:no-such-global") B hr hYk ok hb hw (fun vs w s mg f Q E hg hf h => ?_) (fun w s hg G n hn => ?_) fun w s0 s1 mg mb G Y args vs as hpre hlay L low => ?_⟩
  · refine wpAny_bind (wpAny_nsGet hg ?_)
    rw [hf]
    exact wpAny_bind (wpAny_mono h (fun _ _ x => wpAny_pure x) fun _ _ x => x)
  · have e : n = r.name := by
      split at hn
      · exact List.mem_singleton.mp hn
      · cases hn
    subst e
    exact pinned_of_view hg G hdef hp hk
  · obtain ⟨a, o, pm, cd, doc, dV, kV, e1, e2, e3, e4, e5⟩ := G.fn hdef
    exact ⟨.ref a, e1, call w s0 s1 mg mb G Y a o pm cd doc dV kV e2 e3 e4 e5 (by rw [defOf_name hdef]; exact e1) L.gens args vs as hpre hlay (Laid.reads L) (Laid.well L) (Laid.low L low)⟩

/-! ### the run -/
theorem boot_life (P : Params) : (boot_heap P).life.registered = [] := by kernel_rfl
/-- the top has come to its end at s1 -/
theorem top_ran {p : Program} {w : World} {s0 s1 : Shared} {t : Thread} (r : Rch p w s0 (topStub p) s1 t) (ht : through t = true) (hg : s1.gens = #[]) :
    ∃ n t', schedN (denote table) p w n (.single s0 (topStub p)) = .running (.single s1 t') ∧ through t' = true := by
  obtain ⟨n, a, b, h, ea, eb⟩ := r s0 (topStub p) rfl rfl
  have e1 : a = s1 := by
    obtain ⟨h1, g1, d1, k1, o1⟩ := a
    obtain ⟨h2, g2, d2, k2, o2⟩ := s1
    have q : (Shared.mk h1 (g1.map GenState.forget) d1 k1 o1) = Shared.mk h2 (g2.map GenState.forget) d2 k2 o2 := ea
    injection q with q1 q2 q3 q4 q5
    obtain rfl : g2 = #[] := hg
    have z : g1 = #[] := by
      have z1 : g1.size = 0 := by simpa using congrArg Array.size q2
      exact Array.eq_empty_of_size_eq_zero z1
    subst q1 q3 q4 q5 z
    rfl
  refine ⟨n, b, by rw [h, e1], ?_⟩
  obtain ⟨c1, k1, p1, st1⟩ := b
  obtain ⟨c2, k2, p2, st2⟩ := t
  have q : (Thread.mk c1 k1 p1 (forgetAll st1)) = Thread.mk c2 k2 p2 (forgetAll st2) := eb
  injection q with q1 q2 q3 q4
  have z : st1.isEmpty = st2.isEmpty := by
    cases st1 <;> cases st2 <;> first | rfl | cases q4
  subst q1
  unfold through at ht ⊢
  dsimp only at ht ⊢
  rw [z]
  exact ht
end Hx

set_option maxRecDepth 100000
set_option maxHeartbeats 4000000
noncomputable section
namespace Hx
open PySem PySem.W PySem.Calls PyProof.Rows

/-! ### the top in three parts: to the statement of the pairs, it, to the end -/
def restR (rest : List Stmt) (env : Env) (c : Code) (p : Pos) (B : List Frame) : Thread := ⟨((execs rest env).onRaise (leaving env)).bind fun f => (Sem.pure (Fin.done f) : Sem Fin), c, p, B⟩
theorem restR_eq (rest : List Stmt) (env : Env) (c : Code) (p : Pos) (B : List Frame) : restR rest env c p B = restOf rest env c p B := by
  unfold restR restOf
  rw [Sem.bind_eq_wrap, Sem.onRaise_eq_wrap, Sem.wrap_wrap]
  rfl
abbrev Stp : Type := SharedT → Thread → Option (SharedT × Thread)
abbrev stQ (P : Program) (w : World) : Stp := HandSHeadRun.stepQ (HandSHeadRun.denQ HandSHeadRun.tabQ) P w
abbrev stS (P : Program) (w : World) : Stp := stepT (denote treeTable) P w
theorem stQ_eq (P : Program) (w : World) : stS P w = stQ P w := by
  unfold stS stQ
  rw [HandSHeadRun.stepQ_eq, HandSHeadRun.denQ_eq, HandSHeadRun.tabQ_eq]
/-- k steps from the boot -/
def preG (st : Stp) (P : Program) (k : Nat) (w : World) (os : OsState) : Option (SharedT × Thread) := match HandSHeadRun.putAll (boot_heap w.params).objs.toList .nil 0 with
  | some (t, n) => HandSHeadRun.frNat n fun n => goP st k (HandSHeadRun.bootT w os (t, n)) (topStub P)
  | none => none
def S1G (P : Program) (k : Nat) (w : World) (os : OsState) : Shared := match preG (stQ P w) P k w os with
  | some (s, _) => s.abs
  | none => ⟨boot_heap w.params, #[], boot_drawn, boot_toks, os⟩
def bootS (w : World) (os : OsState) : Shared := ⟨boot_heap w.params, #[], boot_drawn, boot_toks, os⟩
/-- k steps from a state written out -/
def sufG (st : Stp) (k : Nat) (s : Shared) (t : Thread) : Option (SharedT × Thread) := match HandSHeadRun.putAll s.heap.objs.toList .nil 0 with
  | some (T, n) => HandSHeadRun.frNat n fun n => HandSHeadRun.frNat s.toks fun tk => goP st k ⟨T, n, s.heap.life, s.gens, s.drawn, tk, s.os⟩ t
  | none => none
section
variable {p : Program} {w : World}
theorem put_abs {s : Shared} {T : PySem.W.BT} {n : Nat} (e : HandSHeadRun.putAll s.heap.objs.toList .nil 0 = some (T, n)) : (SharedT.mk T n s.heap.life s.gens s.drawn s.toks s.os).abs = s := by
  have eh := HandSHeadRun.putAll_heap e
  show (⟨absHeap T n s.heap.life, s.gens, s.drawn, s.toks, s.os⟩ : Shared) = s
  rw [eh]
theorem preG_ok {k : Nat} {os : OsState} {s' : SharedT} {t' : Thread} (h : preG (stepT (denote table) p w) p k w os = some (s', t')) (hz : (bootS w os).asleep) : Rch p w (bootS w os) (topStub p) s'.abs t' ∧ s'.abs.asleep := by
  unfold preG at h
  cases e : HandSHeadRun.putAll (boot_heap w.params).objs.toList .nil 0 with
  | none =>
    rw [e] at h
    cases h
  | some r =>
    obtain ⟨T, n⟩ := r
    rw [e] at h
    have h1 : (HandSHeadRun.frNat n fun n => goP (stepT (denote table) p w) k (HandSHeadRun.bootT w os (T, n)) (topStub p)) = some (s', t') := h
    rw [HandSHeadRun.frNat_eq] at h1
    have eb : (HandSHeadRun.bootT w os (T, n)).abs = bootS w os := put_abs (s := bootS w os) e
    have q := goP_ok (p := p) (w := w) k h1 (by rw [eb]; exact hz)
    rw [eb] at q
    exact q
theorem sufG_ok {k : Nat} {s : Shared} {s' : SharedT} {t t' : Thread} (h : sufG (stepT (denote table) p w) k s t = some (s', t')) (hz : s.asleep) : Rch p w s t s'.abs t' ∧ s'.abs.asleep := by
  unfold sufG at h
  cases e : HandSHeadRun.putAll s.heap.objs.toList .nil 0 with
  | none =>
    rw [e] at h
    cases h
  | some r =>
    obtain ⟨T, n⟩ := r
    rw [e] at h
    have h1 : (HandSHeadRun.frNat n fun n => HandSHeadRun.frNat s.toks fun tk => goP (stepT (denote table) p w) k ⟨T, n, s.heap.life, s.gens, s.drawn, tk, s.os⟩ t) = some (s', t') := h
    rw [HandSHeadRun.frNat_eq, HandSHeadRun.frNat_eq] at h1
    have eb := put_abs e
    have q := goP_ok (p := p) (w := w) k h1 (by rw [eb]; exact hz)
    rw [eb] at q
    exact q
end
/-- a frame's around -/
def topA : Around := { depth := 2 + claimMargin, units := 100 }
/-- what S1 must bear -/
def mainOk (name : PySem.Str) (s : Shared) : Bool := (match s.heap.get? mainNs with
  | some ⟨_, _, .dict es _, _⟩ => !aRefKeyMayBeTheName name es
  | _ => false) && Nat.blt sysModules s.heap.objs.size
theorem mainOk_ok {name : PySem.Str} {s : Shared} (h : mainOk name s = true) : (∃ o es m, s.heap.get? mainNs = some o ∧ o.data = .dict es m ∧ aRefKeyMayBeTheName name es = false) ∧ sysModules < s.heap.objs.size := by
  obtain ⟨h1, h2⟩ := Bool.and_eq_true_iff.mp h
  refine ⟨?_, Nat.le_of_ble_eq_true h2⟩
  cases e : s.heap.get? mainNs with
  | none =>
    rw [e] at h1
    cases h1
  | some o =>
    obtain ⟨c, d, dt, sl⟩ := o
    rw [e] at h1
    cases dt with
    | dict es m =>
      have h3 : (!aRefKeyMayBeTheName name es) = true := h1
      exact ⟨_, es, m, rfl, rfl, by simpa using h3⟩
    | _ => cases h1
/-- the addresses that the top may write -/
def ownB (w : World) (b : Nat) : Bool := b == mainNs || (b == cStatics || ((boot_heap w.params).isNs mainGlobals && (boot_heap w.params).nsMap mainGlobals "__annotations__" == some (.ref b)))
/-- what is seen behind the top -/
def seenF (P q : Program) (loose : List PySem.Str) (bs : List Nat) {α : Type} (ob : SharedT → α) (w : World) (r : SharedT × Thread) :=
  (through r.2, HandSHeadRun.looksF P (boot_heap w.params) r.1.abs, HandSHeadRun.seenQ q loose (importedModules P.main.body) (fun s => xlAt q [] s) r.1.abs, r.1.life, r.1.gens, r.1.os, bs.map (HandSHeadRun.getT r.1), ob r.1)
def dueF (q : Program) (loose : List PySem.Str) (bs : List Nat) {α : Type} (v : World → α) (w : World) (os : OsState) :=
  (true, true, openGood q loose, (boot_heap w.params).life, (#[] : Array GenState), os, bs.map (boot_heap w.params).get?, v w)
theorem beh_of {P q : Program} {loose : List PySem.Str} {H : Hook} {ob : SharedT → H.α} {k1 k2 : Nat} {env : Env} {pos0 q0 : Pos} {st : Stmt} {rest : List Stmt} {bs : List Nat} {name : PySem.Str} {np pos pos' : Pos} {keys : List (Option Expr)} {values : List Expr} {l : List (Expr × Expr)} {qe : Expr × Expr}
    {ns : List En} {n : En} (ho : ∀ s : SharedT, ob s = H.obs s.abs) (eo : opening P = plainProg P.main.scope.names) (f : ∀ s, fenceModules? P s = some s) (hch : chainsOk q = true)
    (pre : ∀ (w : World) (os : OsState), (preG (stS P w) P k1 w os).map (fun r => r.2) = some (restR (st :: rest) env (.body (behindTheImports P) env) pos0 [topFrame q0]))
    (pre2 : ∀ (w : World) (os : OsState), (fun s => (mainOk name s, s.heap.life.registered)) (S1G P k1 w os) = (true, []))
    (hst : st = .Assign [.Name name np] (.Dict keys values pos') pos) (hshape : (evalEachOpt keys env).zip ((evalEach values env).map fun v => do let x ← v; standAt pos'; pure x) = (mkPairs env pos' (l ++ [qe])).map fun p => (some p.1, p.2))
    (hl : l.map enOf = ns.map some) (hq : enOf qe = some n) (hn : (ns.map (·.key)).Nodup) (hnew : n.key ∉ ns.map (·.key)) (h0 : ns.length = 17)
    (hk : env.kindOf name = some .local) (hsc : env.scope.kind = .module) (hlo : env.locals = mainNs) (hg : env.globals = mainNs) (hin : (Ctx.of (.body (behindTheImports P) env) [topFrame q0]).In topA)
    (hbs : ∀ w : World, (List.range (boot_heap w.params).objs.size).all (fun b => ownB w b || bs.contains b) = true)
    (suf : ∀ (w : World) (os : OsState) (ps : Pos), (sufG (stQ P w) k2 (stmtS P w name ns n (S1G P k1 w os)) (restOf rest env (.body (behindTheImports P) env) ps [topFrame q0])).map (seenF P q loose bs ob w) = some (dueF q loose bs H.val w os)) :
    Beh P q loose H.says := fun w => by
  have hfo := boot_open eo (N := 600) rfl f w
  rw [← table_eq_tree] at hfo
  obtain ⟨⟨h, gs, d, k, os⟩, h2, h2e⟩ := Option.map_eq_some_iff.mp hfo
  obtain ⟨rfl, rfl, rfl, rfl⟩ : h = boot_heap w.params ∧ gs = Array.mk [] ∧ d = boot_drawn ∧ k = boot_toks := by simpa using h2e
  obtain ⟨sa, h4, h5⟩ := Option.bind_eq_some_iff.mp h2
  have AI := AfterImport.of_importEnds h4
  refine ⟨⟨sa, AI⟩, fun s' hs' => ?_⟩
  obtain rfl : s' = sa := AfterImport.unique hs' AI
  have z : (bootS w os).asleep := Shared.asleep_of_life (fence_lifeW h5) AI.life
  -- the first part
  obtain ⟨⟨s1, t1⟩, e1, e1t⟩ := Option.map_eq_some_iff.mp (pre w os)
  have e1t : t1 = restR (st :: rest) env (.body (behindTheImports P) env) pos0 [topFrame q0] := e1t
  have eS1 : S1G P k1 w os = s1.abs := by
    unfold S1G
    rw [← stQ_eq, e1]
  have e1' := e1
  unfold stS at e1'
  rw [← table_eq_tree] at e1'
  obtain ⟨R1, z1⟩ := preG_ok (p := P) e1' z
  rw [e1t, restR_eq, ← eS1] at R1
  rw [← eS1] at z1
  -- the statement
  obtain ⟨⟨o, es, m, ho1, hd1, ha1⟩, hsm⟩ := mainOk_ok (congrArg Prod.fst (pre2 w os))
  have W := stmt_ok (P := P) (w := w) (A := topA) (s := S1G P k1 w os) (pos := pos) (np := np) (by decide) hshape hl hq hn hnew h0 hsm hk hsc hlo hg ho1 hd1 ha1
  rw [← hst] at W
  obtain ⟨ps, R2, z2⟩ := rch_stmt (rest := rest) (c := .body (behindTheImports P) env) (pos := pos0) (B := [topFrame q0]) hin W z1
  -- the rest
  obtain ⟨⟨s3, t3⟩, e3, e3t⟩ := Option.map_eq_some_iff.mp (suf w os ps)
  rw [← stQ_eq] at e3
  unfold stS at e3
  rw [← table_eq_tree] at e3
  obtain ⟨R3, z3⟩ := sufG_ok (p := P) e3 z2
  have hthr : through t3 = true := congrArg (fun x => x.1) e3t
  have hlook : HandSHeadRun.looksF P (boot_heap w.params) s3.abs = true := congrArg (fun x => x.2.1) e3t
  have hseen : HandSHeadRun.seenQ q loose (importedModules P.main.body) (fun s => xlAt q [] s) s3.abs = openGood q loose := congrArg (fun x => x.2.2.1) e3t
  have hlife : s3.life = (boot_heap w.params).life := congrArg (fun x => x.2.2.2.1) e3t
  have hgens : s3.gens = #[] := congrArg (fun x => x.2.2.2.2.1) e3t
  have hos : s3.os = os := congrArg (fun x => x.2.2.2.2.2.1) e3t
  have hold : bs.map (HandSHeadRun.getT s3) = bs.map (boot_heap w.params).get? := congrArg (fun x => x.2.2.2.2.2.2.1) e3t
  have hob : ob s3 = H.val w := congrArg (fun x => x.2.2.2.2.2.2.2) e3t
  rw [← HandSHeadRun.seenQ_eq] at hseen
  obtain ⟨G, g0, g1, g2, g3, g4, g5⟩ := ground_of_open (w := w) (XP := XL q []) (fun s x => xl_of s x) hch hseen
  obtain ⟨hs, hlk⟩ := Bool.and_eq_true_iff.mp hlook
  obtain ⟨hs, hgd⟩ := Bool.and_eq_true_iff.mp hs
  obtain ⟨hs, hnb⟩ := Bool.and_eq_true_iff.mp hs
  refine ⟨⟨boot_heap w.params, Array.mk [], boot_drawn, boot_toks, os⟩, h5, rfl, s3.abs, ⟨top_ran ((R1.trans R2).trans R3) hthr hgens, hlife, Shared.rest_eq hos, fun b ob' hb hn' => ?_, g2, statics_of_ok hs, g3, g4, g5, gens_of_done hgd, names_of_bound hnb, laid_of_kept hlk⟩, z3, hgens, g1, G, ?_⟩
  · have hlt : b < (boot_heap w.params).objs.size := Heap.lt_size hb
    have hc := List.all_eq_true.mp (hbs w) b (List.mem_range.mpr hlt)
    rcases Bool.or_eq_true_iff.mp hc with hc | hc
    · exfalso
      refine hn' ?_
      show b = mainNs ∨ b = cStatics ∨ globalOf (boot_heap w.params) "__annotations__" = some (.ref b)
      rcases Bool.or_eq_true_iff.mp hc with hc | hc
      · exact .inl (beq_iff_eq.mp hc)
      · rcases Bool.or_eq_true_iff.mp hc with hc | hc
        · exact .inr (.inl (beq_iff_eq.mp hc))
        · obtain ⟨c1, c2⟩ := Bool.and_eq_true_iff.mp hc
          exact .inr (.inr ((Pin.globalOf_eq c1 _).trans (beq_iff_eq.mp c2)))
    · have hm : b ∈ bs := List.contains_iff_mem.mp hc
      obtain ⟨i, hi, rfl⟩ := List.mem_iff_getElem.mp hm
      have e := congrArg (fun x => x[i]?) hold
      simp only [List.getElem?_map, List.getElem?_eq_getElem hi, Option.map_some] at e
      have e' := Option.some.inj e
      rw [HandSHeadRun.getT_eq] at e'
      exact e'.trans hb
  · rw [ho] at hob
    exact H.of w s3.abs hob
end Hx

end
set_option maxRecDepth 100000
set_option maxHeartbeats 1000000
/-! the facts as the head tells them -/
namespace DL
open PySem PySem.Spec L2
open PyProof.Rows hiding St
abbrev AlK : Type := Bool × List FnW × List (Option (List (Int × Option (List Str) × Option (List Str))))
def obsK (facts : List (PySem.W.Frag → Bool)) (defs : List DefA) (tabs : List (Addr × List Row3)) (K : PySem.W.Frag) : AlK := (facts.all (fun f => f K) && defs.all (fun d => d.ok K), defs.map (fun d => fnObs K d.at_), tabs.map fun t => tabObs K t.1)
def dueK (P : Program) (defs : List DefA) (tabs : List (Addr × List Row3)) (w : World) : AlK := (true, defs.map DefA.val, tabs.map fun t => tabVal P w t.2)
def hookA (P : Program) (as : List Addr) (facts : List (PySem.W.Frag → Bool)) (defs : List DefA) (tabs : List (Addr × List Row3)) : PySem.W.Hook where
  α := AlK
  obs := fun s => obsK facts defs tabs (He.frG s.heap.get? as)
  val := fun w => dueK P defs tabs w
  says := fun w h => ∃ K : PySem.W.Frag, K.In h ∧ obsK facts defs tabs K = dueK P defs tabs w
  of := fun _ _ e => ⟨_, He.frG_in, e⟩
  keeps := fun _ _ _ ⟨K, hK, c⟩ k => ⟨K, PySem.W.Frag.In.keeps hK k, c⟩
def obA (as : List Addr) (facts : List (PySem.W.Frag → Bool)) (defs : List DefA) (tabs : List (Addr × List Row3)) (s : PySem.W.SharedT) : AlK := obsK facts defs tabs (He.frG (HandSHeadRun.getT s) as)
theorem obA_eq {P : Program} {as : List Addr} {facts : List (PySem.W.Frag → Bool)} {defs : List DefA} {tabs : List (Addr × List Row3)} (s : PySem.W.SharedT) : obA as facts defs tabs s = (hookA P as facts defs tabs).obs s.abs := by
  have e : HandSHeadRun.getT s = s.abs.heap.get? := funext (HandSHeadRun.getT_eq s)
  unfold obA
  rw [e]; rfl
theorem mgK_of {K : PySem.W.Frag} {h : Heap} {mg : Str → Option Value} (X : K.In h) (G : h.Ns mainGlobals mg) : MgK K mg := fun x r e => by
  cases r with
  | none => exact PySem.W.mg_none_of X G e
  | some v => exact PySem.W.mg_of X G e
section
variable {P : Program} {facts : List (PySem.W.Frag → Bool)} {defs : List DefA} {tabs : List (Addr × List Row3)} {w : World} {K : PySem.W.Frag}
theorem says_fact (e : obsK facts defs tabs K = dueK P defs tabs w) (i : Nat) (f : PySem.W.Frag → Bool) (h : facts[i]? = some f) : f K = true := by
  have e1 : (facts.all (fun f => f K) && defs.all (fun d => d.ok K)) = true := congrArg (fun z : AlK => z.1) e
  exact List.all_eq_true.mp (ba2 e1).1 f (List.mem_of_getElem? h)
theorem says_def (e : obsK facts defs tabs K = dueK P defs tabs w) (i : Nat) (d : DefA) (h : defs[i]? = some d) : FunA K d := by
  have e1 : (facts.all (fun f => f K) && defs.all (fun d => d.ok K)) = true := congrArg (fun z : AlK => z.1) e
  have e2 : defs.map (fun d => fnObs K d.at_) = defs.map DefA.val := congrArg (fun z : AlK => z.2.1) e
  have e3 : (defs.map fun d => fnObs K d.at_)[i]? = (defs.map DefA.val)[i]? := by rw [e2]
  rw [List.getElem?_map, List.getElem?_map, h] at e3
  exact funA_of (Option.some.inj e3) (List.all_eq_true.mp (ba2 e1).2 d (List.mem_of_getElem? h))
theorem says_tab (e : obsK facts defs tabs K = dueK P defs tabs w) (i : Nat) {a : Addr} {tb : List Row3} (h : tabs[i]? = some (a, tb)) (hn : (tb.map Row3.key).Nodup) : Tab P w K a tb := by
  have e2 : (tabs.map fun t => tabObs K t.1) = tabs.map fun t => tabVal P w t.2 := congrArg (fun z : AlK => z.2.2) e
  have e3 : (tabs.map fun t => tabObs K t.1)[i]? = (tabs.map fun t => tabVal P w t.2)[i]? := by rw [e2]
  rw [List.getElem?_map, List.getElem?_map, h] at e3
  exact tab_of (Option.some.inj e3) hn
end
end DL

set_option maxRecDepth 100000
set_option maxHeartbeats 1000000
/-! the law's end: what its den answers is what its call gives -/
namespace DL
open PySem PySem.Spec L2
open PyProof.Rows hiding St
def nolB (K : PySem.W.Frag) : Bool := K.all fun p => match p.2.cls with
  | .type n => !(n == "list")
  | _ => true
theorem mem_lookup {K : PySem.W.Frag} {a : Addr} {o : Obj} (h : K.lookup a = some o) : (a, o) ∈ K := by
  induction K with
  | nil => cases h
  | cons p r ih =>
    obtain ⟨b, x⟩ := p
    by_cases e : a = b
    · subst e
      simp [List.lookup] at h
      subst h
      exact List.mem_cons_self
    · have e2 : (a == b) = false := by simpa using e
      simp only [List.lookup, e2] at h
      exact List.mem_cons_of_mem _ (ih h)
theorem ints_rv {K : PySem.W.Frag} {G : Hp} : ∀ ns : List Int, RVs K G (ns.map .int) (ns.map V.int)
  | [] => .nil
  | _ :: r => .cons rv_int (ints_rv r)
theorem nolB_ok {K : PySem.W.Frag} (h : nolB K = true) : ∀ a o, K.lookup a = some o → o.cls ≠ .type "list" := fun a o e z => by
  have := List.all_eq_true.mp h _ (mem_lookup e)
  simp [z] at this
section
variable {P : Program} {w : World} {K : PySem.W.Frag} {mg mb : Str → Option Value} {k : Nat} {fa a : Addr} {den : Den} {t : Shared} {vs : List Value} {ns : List Int}
theorem call_den (inK : K.In t.heap) (gl : t.heap.Ns mainGlobals mg) (bl : t.heap.Ns builtinsNs mb) (bls : ∀ x : Str, x ≠ "__name__" → mb x = bootBuiltins x) (lim : t.heap.NoLimit) (gens : t.gens = #[])
    (ha : t.heap.get? a = some { cls := .type "list", data := .seq vs.toArray }) (hi : IntsAre vs ns) (hl : ns.length ≤ sizeLine) (hr : Room k callerA) (nol : ∀ a o, K.lookup a = some o → o.cls ≠ .type "list")
    (F : ∀ base : Heap, K.In base → base.Ns mainGlobals mg → ∃ fd ps, FnOkG P w K mg base (L2.CX P w) k fa fd ps (spD K 1 den) ∧ Binds K fd ps []) (hd : ∃ ρ, den [.v (.lst (ns.map .int))] = .ok (.v (.bl true)) ρ) :
    codeAny (model P w) callerA (.call (.ref fa) ⟨[.ref a], []⟩) (fun r s' => r = .ok (.ret (.bool true)) ∧ OldK t.heap s'.heap ∧ s'.os = t.os ∧ AllBare s'.gens) t := by
  obtain ⟨ρ0, hden⟩ := hd
  have rv := vals_ints hi
  let ob : Obj := { cls := .type "list", data := .seq vs.toArray }
  have noK : K.lookup a = none := by
    cases e : K.lookup a with
    | none => rfl
    | some o =>
      have z := inK a o e
      rw [ha] at z
      cases z
      exact absurd rfl (nol a _ e)
  let H : Hp := fun b => if b = a then some (.frz ob (.lst (ns.map V.int))) else none
  let G : Hp := fun b => if b = a then some (.lst (ns.map V.int)) else none
  have Ha : H a = some (.frz ob (.lst (ns.map V.int))) := if_pos rfl
  have Hn : ∀ {b}, b ≠ a → H b = none := fun z => if_neg z
  have Ga : G a = some (.lst (ns.map V.int)) := if_pos rfl
  have Gn : ∀ {b}, b ≠ a → G b = none := fun z => if_neg z
  have ok : HOk P w H t.heap := fun b u z => by
    by_cases q : b = a
    · subst q
      rw [Ha] at z
      cases z
      exact ⟨ha, by rw [List.length_map]; exact hl, vs, _, rv, ha⟩
    · rw [Hn q] at z; cases z
  have low : ∀ {b : Addr} {o : Obj}, t.heap.get? b = some o → H b = none → (hidT t.heap H).get? b = some o := fun e n => hidT_get e n
  have dictless : ∀ {b : Addr} {o : Obj} {es : Array DictEntry} {ep : Nat}, t.heap.get? b = some o → o.data = .dict es ep → H b = none := by
    intro b o es ep e dd
    by_cases q : b = a
    · subst q
      rw [ha] at e
      cases e
      cases dd
    · exact Hn q
  have nsL : ∀ {b : Addr} {m : Str → Option Value}, t.heap.Ns b m → (hidT t.heap H).Ns b m := by
    rintro b m ⟨o, es, ep, e, dd, r⟩
    exact ⟨o, es, ep, low e (dictless e dd), dd, r⟩
  have inB : K.In (hidT t.heap H) := by
    intro b o e
    refine low (inK b o e) (Hn fun q => ?_)
    subst q
    rw [noK] at e; cases e
  obtain ⟨mc, l1, l2⟩ := lim
  have md : Mod K mg (hidT t.heap H) := ⟨inB, nsL gl, ⟨mb, nsL bl, bls⟩, mc, nsL l1, l2⟩
  have e0 : Env0 P w K mg (hidT t.heap H) callerA [] t H := ⟨rfl, md, fun b o e => of_hidT e, Nat.le_of_eq (hidT_size _ _), trivial, fun b hb => absurd (show b ∈ ([] : List Addr) from hb) (by simp), ok, .of_eq gens⟩
  obtain ⟨fd, ps, FF, bd⟩ := F _ inB (nsL gl)
  have want : spD K 1 den [.ref a] H (fun v _ => v = .bl true) fun _ _ _ => False := by
    refine ⟨rfl, [.v (.lst (ns.map .int))], G, fun _ => none, ⟨rfl, fun j c e => ?_⟩, ⟨fun b u z => ?_, fun b ub hub z => ?_, fun _ _ => rfl, fun _ z => absurd rfl z⟩, ?_, ?_, ?_⟩
    · cases j with
      | zero =>
        cases e
        refine ⟨.ref a, rfl, ?_⟩
        show RV K G (.lst _) _
        exact rv_lst Ga (ints_rv ns)
      | succ j => cases e
    · by_cases q : b = a
      · subst q
        rw [Ga] at z
        cases z
        exact .inr ⟨ob, Ha⟩
      · rw [Gn q] at z; cases z
    · by_cases q : b = a
      · subst q
        rw [Ga] at z
        cases z
        cases hub
      · rw [Gn q] at z; cases z
    · rw [hden]; simp
    · intro c ρ' σ' v H' G' own' e cf rc
      rw [hden] at e
      cases e
      exact (show RV K G' (.bl true) v from rc).bl_inv
    · intro cls dd σ' H' wo
      obtain ⟨c, fs, ρ, e, _⟩ := wo
      rw [hden] at e
      cases e
  have bt := bd t [.ref a] inK (by have := FF.len _ _ _ _ want; simpa using this)
  rw [List.append_nil] at bt
  refine codeAny_mono (FF.run callerA [] t H ⟨[.ref a], []⟩ [.ref a] [.ref a] _ _ rfl hr e0 bt (.cons rfl .nil) want) fun r s' h => ?_
  match r, h with
  | .error e, h =>
    obtain ⟨_, _, _, _, _, _, _, _, _, _, _, _, q⟩ := h
    exact q.elim
  | .ok .next, h => exact h.elim
  | .ok .brk, h => exact h.elim
  | .ok .cont, h => exact h.elim
  | .ok (.ret u), ⟨v, H', os, bare, un, hok', r', q⟩ =>
    have q' : v = .bl true := q
    subst q'
    obtain rfl : u = Value.bool true := r'
    refine ⟨rfl, OldK.of_keep fun b o e => ?_, os, bare⟩
    by_cases z : b = a
    · subst z
      obtain ⟨e2, _⟩ := hok' b _ (un.frzs b ob _ Ha)
      rw [ha] at e
      cases e
      exact e2
    · exact un.keep b o e (Hn z) (by intro z2; exact absurd (show b ∈ ([] : List Addr) from z2) (by simp)) (by simp)
end
theorem walk_den {l : PySem.W.OpenLaw} {n k : Nat} {q : Program} {loose : List Str} {XP : (Str → Option Value) → Heap → Prop} {YP : World → Heap → Prop} {d : DefRec} {den : Den}
    (hn : l.most = some n) (hn2 : n ≤ sizeLine) (hdf : d.params.defaults = []) (hr : Room k callerA)
    (F : ∀ (w : World) (mg : Str → Option Value) (fa : Addr) (h : Heap), YP w h → h.Ns mainGlobals mg → mg d.name = some (.ref fa) →
      ∃ (K : PySem.W.Frag), K.In h ∧ (∀ a o, K.lookup a = some o → o.cls ≠ .type "list") ∧ ∀ base : Heap, K.In base → base.Ns mainGlobals mg → ∃ fd ps, FnOkG l.prog w K mg base (L2.CX l.prog w) k fa fd ps (spD K 1 den) ∧ Binds K fd ps [])
    (hd : ∀ ns : List Int, ns.length ≤ n → ∃ ρ, den [.v (.lst (ns.map .int))] = .ok (.v (.bl true)) ρ) : PySem.W.WalkO q loose XP YP l.row.toRowW d [] (fun f vs => PySem.call f vs) := by
  refine Att.attach_call hn hdf fun w s0 t mg mb fa o pm cd doc a vs ns Gr Y ho hdd hcd hmg hobj hints hlen hgens => ?_
  obtain ⟨K, inK, nol, FF⟩ := F w mg fa _ Y Gr.T.g hmg
  exact call_den inK Gr.T.g Gr.T.b Gr.T.builtins Gr.T.nolimit hgens hobj hints (Nat.le_trans hlen hn2) hr nol FF (hd ns hlen)
end DL

set_option maxRecDepth 100000
set_option maxHeartbeats 1000000
/-! more rules: parameters put anew, break, continue, x += e, x[k] = v of a dict, {k: v}, sum, l[::-1] -/
namespace DL
open PySem PySem.Spec L2
open PyProof.Rows hiding St

/-! ### a def some of whose last parameters are put anew -/
section
variable {K : PySem.W.Frag} {oH oG : Hp} {oo : Own} {vs : List V} {σ : L2.St} {H G : Hp} {own : Own} {ρ : Env}
theorem Cfg.repin {n : Nat} (c : Cfg K ⟨oH, oG, oo, vs.take n⟩ σ H G own ρ) (hn : n ≤ vs.length) : Cfg K ⟨oH, oG, oo, vs⟩ (vs.map some) H G own (ρ.take n) := by
  refine ⟨fun i cc e => ?_, c.good, c.stp, fun j v e => ?_⟩
  · obtain ⟨e1, hi⟩ := take_some e
    obtain ⟨v, h1, h2⟩ := c.er i cc e1
    have hl : i < vs.length := by omega
    have p := c.pins i vs[i] (by show (vs.take n)[i]? = _; rw [List.getElem?_take, if_pos hi, List.getElem?_eq_getElem hl])
    rw [h1] at p
    cases p
    exact ⟨_, by rw [List.getElem?_map, List.getElem?_eq_getElem hl]; rfl, h2⟩
  · rw [List.getElem?_map]
    have e' : vs[j]? = some v := e
    rw [e']; rfl
end
theorem fn_denR {P : Program} {w : World} {K : PySem.W.Frag} {mg : Str → Option Value} {base : Heap} {k nq : Nat} {f : Addr} {name qual : Str} {params : Arguments} {body : List Stmt} {scope : Scope} {dV kV doc pm cdv ct oc : Value} {an od : Option Addr}
    {osl : Array (Option Value)} {N ps : List Str} {m : MS} (lk : K.lookup f = some ⟨oc, od, .func (PySem.W.fnOf name qual params body scope dV kV doc pm an cdv ct), osl⟩) (hcd : PySem.W.codeIn K cdv qual = true) (S : FnScope N ps scope) (hq : nq ≤ ps.length)
    (hbody : ∀ (A : Around) (outer : List PySem.Env) (s : Shared) (H : Hp) (E : XK), Room k (A.deeper (envOfC qual scope s.heap.objs.size f cdv)) → SSs (cxOf (L2.CX P w) P w K mg base N qual scope f cdv A outer s H E) nq body m) :
    FnOk P w K mg base (L2.CX P w) (k + 1) f (PySem.W.fnOf name qual params body scope dV kV doc pm an cdv ct) ps (spD K ps.length (denOf N.length nq m)) := by
  refine fn_of lk hcd S (fun vs H Q E h => h.1) fun A outer s H vs Q E hr hsp => ?_
  obtain ⟨hl, cs, G, own, rcs, good, nb, kq, ke⟩ := hsp
  have hps : ps.length ≤ N.length := by have := congrArg List.length S.pre; rw [List.length_take] at this; omega
  have hb := hbody A outer s H E hr
  generalize hX : cxOf (L2.CX P w) P w K mg base N qual scope f cdv A outer s H E = X at *
  have XK' : X.K = K := by rw [← hX]; rfl
  have tk : Takes X (fun cls d _ H => E cls d H) := by
    rw [← hX]
    exact takes_of rfl rfl rfl rfl
  have hqv : nq ≤ vs.length := by omega
  let o : Orig := ⟨H, G, own, vs.take nq⟩
  have hlo : o.vs.length = nq := by show (vs.take nq).length = nq; rw [List.length_take]; omega
  have c0 : Cfg X.K o (L2.start N vs) H G own (cs.map some ++ List.replicate (N.length - cs.length) none) := by
    rw [XK']
    refine ⟨fun i c e => ?_, good, Stp.refl, fun j v e => ?_⟩
    · have hi : i < cs.length := by
        by_cases z : i < cs.length
        · exact z
        · rw [List.getElem?_append_right (by simpa using z), List.getElem?_replicate] at e
          split at e <;> cases e
      rw [List.getElem?_append_left (by simpa using hi), List.getElem?_map] at e
      obtain ⟨c1, e1, e2⟩ := Option.map_eq_some_iff.mp e
      cases e2
      obtain ⟨v, h1, h2⟩ := rcs.2 i c e1
      refine ⟨v, ?_, h2⟩
      unfold L2.start
      rw [List.getElem?_append_left (by rw [List.length_map, ← rcs.1]; exact hi), List.getElem?_map, h1]; rfl
    · have e' : (vs.take nq)[j]? = some v := e
      rw [List.getElem?_take] at e'
      split at e'
      · unfold L2.start
        have hj : j < vs.length := (List.getElem?_eq_some_iff.mp e').1
        rw [List.getElem?_append_left (by simpa using hj), List.getElem?_map, e']; rfl
      · cases e'
  have nbm : m (cs.map some ++ List.replicate (N.length - cs.length) none) ≠ .bad := fun z => nb (by unfold denOf; rw [z])
  refine ⟨_, pss_w, ?_⟩
  have h := hb o (L2.start N vs) H G own _ hlo c0 nbm
  refine wSs_mono (X := X) (E := _) (E' := X.xe) h (fun σ' H' q => ?_) (fun v H' q => ?_) (fun σ' H' q => ?_) (fun σ' H' q => ?_) fun u s' x => tk u s' (XE.imp (fun cls d σ' H' w' => ?_) x)
  · obtain ⟨ρ', G', own', e, c'⟩ := q
    rw [XK'] at c'
    exact kq (.v .non) (ρ'.take nq) _ _ H' G' own' (by unfold denOf; rw [e]) (c'.repin hqv) (rv_non (K := K) (G := G'))
  · obtain ⟨c, ρ', σ', G', own', e, c', r'⟩ := q
    rw [XK'] at c' r'
    exact kq c (ρ'.take nq) _ _ H' G' own' (by unfold denOf; rw [e]) (c'.repin hqv) r'
  · obtain ⟨ρ', G', own', e, c'⟩ := q
    exact absurd (by unfold denOf; rw [e]) nb
  · obtain ⟨ρ', G', own', e, c'⟩ := q
    exact absurd (by unfold denOf; rw [e]) nb
  · obtain ⟨cl, fs, ρ', e, e2, dd, vf, G', own', e3, e4, e5, c', e6, e7, e8⟩ := w'
    rw [XK'] at e5 c'
    exact ke cls d (vs.map some) H' ⟨cl, fs, ρ'.take nq, by unfold denOf; rw [e], e2, dd, vf, G', own', e3, e4, e5, c'.repin hqv, e6, e7, e8⟩
section
variable {P : Program} {w : World} {K : PySem.W.Frag} {mg : Str → Option Value} {base : Heap} {d : DefA} {N ps : List Str} {m : MS} {j k np nq : Nat} {den : Den}
theorem OkF.mkR (nq : Nat) (F : FunA K d) (S : FnScope N ps d.scope) (hb : ∀ (kV doc pm : Value) (an : Option Addr) (cdv ct : Value) (us : List Value), us.length = ps.length → bindArgs (PySem.W.fnX d.name d.qual d.params d.body d.scope [] .none kV doc pm an cdv ct) ⟨us, []⟩ = pure (ps.zip us))
    (h : ∀ (cdv : Value) (A : Around) (outer : List PySem.Env) (s : Shared) (H : Hp) (E : XK), Room j (A.deeper (envOfC d.qual d.scope s.heap.objs.size d.at_ cdv)) → SSs (cxOf (L2.CX P w) P w K mg base N d.qual d.scope d.at_ cdv A outer s H E) nq d.body m) (hc : d.clo = [] := by rfl) (hk : k = j + 1 := by rfl) (hn : np = ps.length := by rfl) (hq : nq ≤ ps.length := by decide) (hd : den = denOf N.length nq m := by rfl) :
    OkF P w K mg base k d np den := by
  obtain ⟨oc, od, kV, doc, pm, an, cdv, ct, osl, lk, hcd, kp⟩ := F
  subst hk hn hd
  rw [hc] at lk
  exact ⟨⟨_, ps, fn_denR lk hcd S hq fun A outer s H E hr => h cdv A outer s H E hr, .all (hb kV doc pm an cdv ct)⟩, kp⟩
end

/-! ### break, continue -/
section
variable {X : Cx} {o : Orig} {σ : L2.St} {H G : Hp} {own : Own} {ρ : Env} {np : Nat}
variable {e a b ie tst : Expr} {m : MO} {me ma mb : ME} {mt : MT} {mas : MA} {pos pos' pos'' p : Pos} {x : Str} {q qi : Env → Option C}
def mBrk : MS := fun ρ => .ok .bk ρ
def mCnt : MS := fun ρ => .ok .ct ρ
theorem ss_break : SS X np (.Break pos) mBrk := SS.of fun o σ H G own ρ hn c nb => ⟨_, ps_break, ρ, G, own, rfl, c⟩
theorem ss_cont : SS X np (.Continue pos) mCnt := SS.of fun o σ H G own ρ hn c nb => ⟨_, ps_continue, ρ, G, own, rfl, c⟩

/-! ### x += e, x -= e (ints) -/
def iaddD : D → D → Option D
  | .int i, .int j => some (.int (i + j))
  | _, _ => none
def isubD : D → D → Option D
  | .int i, .int j => some (.int (i - j))
  | _, _ => none
/-- in place: ints -/
def IpX (op : Operator) (f : D → D → Option D) : Prop := ∃ g : Int → Int → Int, (∀ X : Cx, PIp X op (ipI g)) ∧ ∀ x y z, f x y = some z → ∃ i j, x = .int i ∧ y = .int j ∧ z = .int (g i j)
theorem ipx_add : IpX .Add iaddD := ⟨_, fun X => ip_add, fun x y z h => by
  unfold iaddD at h
  split at h
  · cases h; exact ⟨_, _, rfl, rfl, rfl⟩
  · cases h⟩
theorem ipx_sub : IpX .Sub isubD := ⟨_, fun X => ip_sub, fun x y z h => by
  unfold isubD at h
  split at h
  · cases h; exact ⟨_, _, rfl, rfl, rfl⟩
  · cases h⟩
def mAug (np i : Nat) (f : D → D → Option D) (me : ME) : MS := fun ρ => match qVar i ρ with
  | some (.v d) => (me ρ).bind fun y ρ1 => match f d y with
    | some z => if np ≤ i then .ok .nx (ρ1.set i (some (.v z))) else .bad
    | none => .bad
  | _ => .bad
theorem ss_aug {i : Nat} {op : Operator} {f : D → D → Option D} (ho : IpX op f) (h : SE X e me) (hN : X.N.Nodup) (hi : X.N[i]? = some x) (hx : Loc X.env.scope x) (hf : X.fn x = true ∨ X.env.scope.names.lookup x = some .local := by first | exact .inl rfl | exact .inr rfl) :
    SS X np (.AugAssign (.Name x pos') op e pos) (mAug np i f me) := SS.ofL fun o σ H G own ρ hn hl c nb => by
  obtain ⟨g, hg, hf2⟩ := ho
  refine ⟨_, ps_aug (X := Cx.to X o _) hN hi hx pe_w (hg _) hf, ?_⟩
  unfold mAug at nb
  cases e0 : qVar i ρ with
  | none => rw [e0] at nb; exact absurd rfl nb
  | some cc =>
    cases cc with
    | v d =>
      obtain ⟨w, k1, k2⟩ := c.er i _ (qVar_some e0)
      refine ⟨w, k1, ?_⟩
      have em : mAug np i f me ρ = (me ρ).bind fun y ρ1 => match f d y with
        | some z => if np ≤ i then .ok .nx (ρ1.set i (some (.v z))) else .bad
        | none => .bad := by unfold mAug; rw [e0]
      rw [e0] at nb
      dsimp only at nb
      rw [em]
      refine h.we c (R.bind_nb nb) Xle.bind fun y ρ' v H' G' own' e1 c' x' rv => ?_
      rw [e1, R.bind_ok] at nb ⊢
      cases e2 : f d y with
      | none => rw [e2] at nb; exact absurd rfl nb
      | some z =>
        rw [e2] at nb
        dsimp only at nb ⊢
        obtain ⟨i1, j1, rfl, rfl, rfl⟩ := hf2 _ _ _ e2
        obtain rfl := RV.int_inv (K := X.K) (G := G) k2
        obtain rfl := RV.int_inv (K := X.K) (G := G') rv
        refine ⟨i1, j1, rfl, rfl, ?_⟩
        by_cases hz : np ≤ i
        · exact ⟨_, G', own', if_pos hz, c'.setv (by omega) (by rw [hl]; exact (List.getElem?_eq_some_iff.mp hi).1) rv_int⟩
        · rw [if_neg hz] at nb; exact absurd rfl nb
    | _ => rw [e0] at nb; exact absurd rfl nb

/-! ### x[k] = v, x a slot's own dict -/
def mSetDx (i : Nat) (mv mk : ME) : MS := fun ρ => (mv ρ).bind fun d ρ1 => match qVar i ρ1 with
  | some (.dic _ _) => (mk ρ1).bind fun k ρ2 => match qVar i ρ2, keyD k with
    | some (.dic ks vs), some kk => if ks.length < sizeLine then .ok .nx (ρ2.set i (some (.dic (putD ks vs kk d).1 (putD ks vs kk d).2))) else .bad
    | _, _ => .bad
  | _ => .bad
theorem ss_setDx {i : Nat} {tpos : Pos} (hu : X.A.units + 100 < cLine) (hv : SE X e me) (hN : X.N[i]? = some x) (hvis : Vis X.env.scope x) (hk : SE X ie mb)
    (hs : swapsWith e (some (.Subscript (.Name x pos') ie tpos)) pos.line X.env = pure false := by rfl)
    (hd : (x == ("__debug__" : Str)) = false := by decide) (hcd : (x == ("__classdict__" : Str)) = false := by decide) : SS X np (.Assign [.Subscript (.Name x pos') ie tpos] e pos) (mSetDx i me mb) := SS.of fun o σ H G own ρ hn c nb =>
  ⟨_, ps_dput (X := Cx.to X o _) (show X.A.units + 1 < cLine by omega) (pe_var (X := Cx.to X o _) hN hvis hd hcd) pe_w pe_w hs, by
    refine hv.we c (R.bind_nb nb) Xle.bind fun d ρ1 v H1 G1 own1 e1 c1 x1 r1 => ?_
    have em : mSetDx i me mb ρ = match qVar i ρ1 with
      | some (.dic _ _) => (mb ρ1).bind fun k ρ2 => match qVar i ρ2, keyD k with
        | some (.dic ks vs), some kk => if ks.length < sizeLine then .ok .nx (ρ2.set i (some (.dic (putD ks vs kk d).1 (putD ks vs kk d).2))) else .bad
        | _, _ => .bad
      | _ => .bad := by unfold mSetDx; rw [e1]; rfl
    rw [em] at nb ⊢
    cases e2 : qVar i ρ1 with
    | none => rw [e2] at nb; exact absurd rfl nb
    | some cc =>
      rw [e2] at nb
      cases cc with
      | dic ks0 vs0 =>
        dsimp only at nb ⊢
        obtain ⟨w, j1, j2⟩ := c1.er i _ (qVar_some e2)
        refine ⟨w, j1, ?_⟩
        refine hk.we c1 (R.bind_nb nb) Xle.bind fun k ρ2 kv H2 G2 own2 f1 c2 x2 r2 => ?_
        rw [f1, R.bind_ok] at nb ⊢
        cases e3 : qVar i ρ2 with
        | none => rw [e3] at nb; exact absurd rfl nb
        | some c3 =>
          rw [e3] at nb
          cases c3 with
          | dic ks vs =>
            cases e5 : keyD k with
            | none => rw [e5] at nb; exact absurd rfl nb
            | some kk =>
              rw [e5] at nb
              dsimp only at nb ⊢
              by_cases hz : ks.length < sizeLine
              · obtain ⟨w', j3, j4⟩ := c2.er i _ (qVar_some e3)
                rw [j1] at j3
                cases j3
                obtain ⟨a2, kvs, rfl, k3, k4, k5, k6⟩ := j4
                obtain rfl := keyD_rv (K := X.K) (G := G2) r2 e5
                subst k5
                obtain ⟨p1, p2⟩ := putK_rv (k := kk) (RV.mono x2 _ _ r1) k6
                refine ⟨a2, _, rfl, DPut.k k3 (by simpa using hz), _, G2, own2, if_pos hz, er_set c2 k4 j1 ?_⟩
                exact ⟨a2, _, rfl, upd_same, k4, p1, p2⟩
              · rw [if_neg hz] at nb; exact absurd rfl nb
          | v d => exact absurd rfl nb
          | lst _ => exact absurd rfl nb
          | ins _ _ _ => exact absurd rfl nb
      | v d => exact absurd rfl nb
      | lst _ => exact absurd rfl nb
      | ins _ _ _ => exact absurd rfl nb⟩

/-! ### {k: v} -/
theorem so_dic1 {k v : Expr} {mk mv : ME} (hk : SE X k mk) (hv : SE X v mv) : SO X (.Dict [some k] [v] pos) (mDic1 mk mv) := SO.of fun o σ H G own ρ c nb =>
  ⟨_, pe_disp (X := Cx.to X o _) (pps_cons pe_w pe_w pps_nil) rfl rfl (by simp) (by simp), fun p hp => by
    have np : own p = none := c.good.onone hp
    have gp : G p = none := c.good.gnone hp
    have op : o.H p = none := by
      cases z : o.H p with
      | none => rfl
      | some u => exact absurd hp (c.stp.there p (by rw [z]; simp))
    have ck := c.keep (H' := upd H p (.dK [])) fun a u h => by rw [upd_ne (ne_of_none h hp)]; exact h
    have c0 := ck.rebase
    have em : mDic1 mk mv ρ = (mk ρ).bind fun k ρ1 => (mv ρ1).bind fun v ρ2 => match keyD k with
      | some kk => .ok (.dic [kk] [v]) ρ2
      | none => .bad := rfl
    rw [em] at nb
    refine wE_mono (hk _ σ _ G own ρ c0 (R.bind_nb nb)) (fun x H1 ⟨dk, ρ1, G1, own1, e1, c1, x1, r1⟩ => ?_) fun u s' xx => XE.imp (fun _ _ _ _ w => WO.imp (by rw [em]; exact Xle.bind) (WO.comp ck w)) xx
    rw [e1, R.bind_ok] at em nb
    refine wE_mono (hv _ σ H1 G1 own1 ρ1 c1 (R.bind_nb nb)) (fun y H2 ⟨dv, ρ2, G2, own2, e2, c2, x2, r2⟩ => ?_) fun u s' xx => XE.imp (fun _ _ _ _ w => WO.imp (by rw [em]; exact Xle.bind) (WO.comp ck w)) xx
    rw [e2, R.bind_ok] at em nb
    cases e3 : keyD dk with
    | none => rw [e3] at nb; exact absurd rfl nb
    | some kk =>
      rw [e3] at em nb
      obtain rfl := keyD_rv (K := X.K) (G := G1) r1 e3
      have h2 : H2 p = some (.dK []) := c2.stp.keep p _ (by show upd H p (.dK []) p = _; rw [upd_same]) np
      have n2 : own2 p = none := by
        cases z : own2 p with
        | none => rfl
        | some l =>
          rcases c2.stp.orig p (by rw [z]; simp) with q | q
          · exact absurd np q
          · have q' : upd H p (.dK []) p = none := q
            rw [upd_same] at q'; cases q'
      have g2 : G2 p = none := by
        cases z : G2 p with
        | none => rfl
        | some l =>
          rcases c2.stp.origG p (by rw [z]; simp) with q | q | q
          · exact absurd gp q
          · exact absurd np q
          · have q' : upd H p (.dK []) p = none := q
            rw [upd_same] at q'; cases q'
      refine ⟨h2, [(kk, y)], rfl, by simp, ?_⟩
      have c3 := (ck.comp c2).priv (u := .dK (mergeK [] [(kk, y)])) n2 g2 op
      have c4 := c3.claim n2 g2 op (by rw [upd_same]; simp) (none, none)
      exact ⟨_, ρ2, G2, _, em, c4, x1.trans x2, p, [(kk, y)], rfl, by rw [upd_same]; rfl, mark_same, rfl, .cons r2 .nil⟩⟩
/-! ### sum -/
def intsD : List D → Option (List Int)
  | [] => some []
  | .int i :: l => (intsD l).map (i :: ·)
  | _ => none
theorem intsD_rv {K : PySem.W.Frag} {G : Hp} : ∀ {l : List D} {ns : List Int} {xs : List V}, intsD l = some ns → RVs K G l xs → xs = ns.map V.int
  | [], ns, xs, e, h => by cases e; rw [h.inv_nil]; rfl
  | d :: l, ns, xs, e, h => by
    obtain ⟨x, r, rfl, h1, h2⟩ := h.inv_cons
    cases d with
    | int i =>
      obtain ⟨ms, e1, e2⟩ := Option.map_eq_some_iff.mp (show (intsD l).map (i :: ·) = some ns from e)
      subst e2
      rw [h1.int_inv, intsD_rv e1 h2]; rfl
    | _ => cases e
def sumD : D → Option D
  | .lst l => (intsD l).map fun ns => .int ns.sum
  | _ => none
theorem ct_sum (hc : X.calm = true) : CallT X (.builtin "sum") sumD := by
  intro E o σ H G own ρ dx d v c hx h
  unfold sumD at h
  split at h
  · obtain ⟨ns, e1, e2⟩ := Option.map_eq_some_iff.mp h
    subst e2
    obtain ⟨a, xs, rfl, h1, h2⟩ := hx
    obtain rfl := intsD_rv e1 h2
    exact ⟨_, cr_sum (X := X.wish E) hc, a, ns, rfl, .inl h1, okd_pure c rv_int⟩
  · cases h
end
end DL

set_option maxRecDepth 100000
set_option maxHeartbeats 1000000
/-! shorter premises, closed by the kernel -/
namespace DL
open PySem PySem.Spec L2
open PyProof.Rows hiding St
def dbgB (x : Str) : Bool := (x == ("__debug__" : Str)) || (x == ("__classdict__" : Str))
theorem dbg1 {x : Str} (h : dbgB x = false) : (x == ("__debug__" : Str)) = false := (Bool.or_eq_false_iff.mp h).1
theorem dbg2 {x : Str} (h : dbgB x = false) : (x == ("__classdict__" : Str)) = false := (Bool.or_eq_false_iff.mp h).2
section
variable {X : Cx} {pos pos' : Pos} {x : Str} {np : Nat} {d : D}
theorem gl_of (h : X.env.kindOf x = some .globalImplicit) : Gl X x := h
theorem sq_v (i : Nat) (hN : X.N[i]? = some x) (hv : Vis X.env.scope x) (h : dbgB x = false) : SQ X (.Name x pos) (qVar i) := sq_var hN hv (dbg1 h) (dbg2 h)
theorem sq_k (hg : X.env.kindOf x = some .globalImplicit) (h : ConD X.K X.mg x d) (hd : dbgB x = false) : SQ X (.Name x pos) (qC d) := sq_con hg h (dbg1 hd)
theorem ar_v (i : Nat) (hN : X.N[i]? = some x) (hv : Vis X.env.scope x) (h : dbgB x = false) : SAr1 X (.Name x pos) (aSlot i) := ar_slot hN hv (dbg1 h) (dbg2 h)
theorem si_v {tg : Expr} (i : Nat) (hN : X.N[i]? = some x) (hv : Vis X.env.scope x) (h : dbgB x = false) : SI X tg (.Name x pos) (iSlot i) (some i) := si_slot hN hv (dbg1 h) (dbg2 h)
theorem ss_rv (i : Nat) (hN : X.N[i]? = some x) (hv : Vis X.env.scope x) (h : dbgB x = false) : SS X np (.Return (some (.Name x pos')) pos) (mRetV np i) := ss_retV hN hv (dbg1 h) (dbg2 h)
end
theorem rng_len {lo : Int} {m : Nat} : (rngD lo m).length = m := by unfold rngD; simp
end DL

set_option maxRecDepth 100000
set_option maxHeartbeats 0
namespace K84
open PySem DL
open L2 (V Hp Key)
abbrev cBoxes : Addr := 255
abbrev cProgram : Addr := 348
abbrev cBoxError : Addr := 40
abbrev cNoRow : Addr := 53
abbrev cNoBoxes : Addr := 65
abbrev cNoProgram : Addr := 77
abbrev cNoPart : Addr := 89
def cEXC : List Addr := [cNoRow, cNoBoxes, cNoProgram, cNoPart]
def tSTEP_SORTS : List DL.Row3 := [("stack", "push", ["letter"]), ("stack", "pop", ["letter"]), ("queue", "put", ["letter"]), ("queue", "take", ["letter"]), ("ring", "put", ["letter"]), ("ring", "take", []), ("tape", "left", []), ("tape", "right", []), ("tape", "write", ["letter"]), ("tape", "expect", ["letter"]), ("heap", "insert", ["inserted"]), ("heap", "least", []), ("gauge", "add", ["amount"]), ("gauge", "sub", ["amount"]), ("table", "set", ["letter", "letter"]), ("table", "clear", ["letter"]), ("table", "expect", ["letter", "letter"]), ("table", "absent", ["letter"])]
def m_is_whole : MS := mRet (mOwn (vAnd (mIsT ["int", "bool"] [] [cBoxes, cProgram] (mV (qVar 0))) (vNot (mIsT ["bool"] [] [cBoxes, cProgram] (mV (qVar 0))))))
def d_is_whole : Den := denOf 1 1 m_is_whole
def m_is_number : MS := mRet (mOwn (vAnd (mFrz (mCall 1 d_is_whole (aCons (aSlot 0) aNil))) (mChain leD leD (mV (qVar 1)) (mV (qVar 0)) (mV (qVar 2)))))
def d_is_number : Den := denOf 3 3 m_is_number
def m_is_line : MS := mRet (mOwn (mIsT ["list", "tuple"] [] [cBoxes, cProgram] (mV (qVar 0))))
def d_is_line : Den := denOf 1 1 m_is_line
def m_is_tuple_of : MS := mRet (mOwn (vAnd (mIsT ["tuple"] [] [cBoxes, cProgram] (mV (qVar 0))) (mBin eqD (mC1 lenD (mR (qVar 0))) (mV (qVar 1)))))
def d_is_tuple_of : Den := denOf 2 2 m_is_tuple_of
def m_is_one_of : MS := mRet (mOwn (vAnd (mIsT ["str"] [] [cBoxes, cProgram] (mV (qVar 0))) (mBin inD (mV (qVar 0)) (mR (qVar 1)))))
def d_is_one_of : Den := denOf 2 2 m_is_one_of
def m_is_letter : MS := mRet (mOwn (vAnd (mIsT ["str"] [] [cBoxes, cProgram] (mV (qVar 0))) (vAnd (mChain leD leD (mV (qC (.int (1)))) (mC1 lenD (mR (qVar 0))) (mV (qC (.int (4))))) (mC1 allD (mFrz (mComp (iSeq (mV (qVar 0))) none (gW 1) tYesM (mBin inD (mV (qVar 1)) (mR (qC (.str "abcdefghijklmnopqrstuvwxyz")))) [1]))))))
def d_is_letter : Den := denOf 2 1 m_is_letter
def m_is_kind : MS := mSeq (mIfS (mOr (mNot (mB (mIsT ["tuple"] [] [cBoxes, cProgram] (mV (qVar 0))))) (mOr (mB (mBin niD (mC1 lenD (mR (qVar 0))) (mTup (mCons (mV (qC (.int (1)))) (mCons (mV (qC (.int (3)))) mNil))))) (mNot (mB (mIsT ["str"] [] [cBoxes, cProgram] (mV (qIx (qVar 0) (qC (.int (0)))))))))) (mRet (mOwn (mV (qC (.bl false))))) mSkip) (mSeq (mIfS (mB (mBin eqD (mC1 lenD (mR (qVar 0))) (mV (qC (.int (1)))))) (mRet (mOwn (mBin inD (mV (qIx (qVar 0) (qC (.int (0))))) (mR (qC (.tup [.str "stack", .str "queue", .str "tape", .str "heap", .str "table"])))))) mSkip) (mSeq (mIfS (mB (mBin eqD (mV (qIx (qVar 0) (qC (.int (0))))) (mV (qC (.str "ring"))))) (mRet (mOwn (vAnd (mFrz (mCall 3 d_is_number (aCons (aVal (mV (qIx (qVar 0) (qC (.int (1)))))) (aCons (aVal (mV (qC (.int (1))))) (aCons (aVal (mV (qC (.int (12))))) aNil))))) (mFrz (mCall 2 d_is_one_of (aCons (aVal (mV (qIx (qVar 0) (qC (.int (2)))))) (aCons (aVal (mV (qC (.tup [.str "drop", .str "ignore", .str "fail"])))) aNil))))))) mSkip) (mRet (mOwn (vAnd (mBin eqD (mV (qIx (qVar 0) (qC (.int (0))))) (mV (qC (.str "gauge")))) (vAnd (mFrz (mCall 3 d_is_number (aCons (aVal (mV (qIx (qVar 0) (qC (.int (1)))))) (aCons (aVal (mV (qC (.int (1))))) (aCons (aVal (mV (qC (.int (999))))) aNil))))) (mFrz (mCall 2 d_is_one_of (aCons (aVal (mV (qIx (qVar 0) (qC (.int (2)))))) (aCons (aVal (mV (qC (.tup [.str "stop", .str "fail"])))) aNil))))))))))
def d_is_kind : Den := denOf 1 1 m_is_kind
def m_is_part : MS := mSeq (mIfS (mB (mBin eqD (mV (qVar 1)) (mV (qC (.str "letter"))))) (mRet (mCall 1 d_is_letter (aCons (aSlot 2) aNil))) mSkip) (mSeq (mIfS (mB (mBin eqD (mV (qVar 1)) (mV (qC (.str "inserted"))))) (mRet (mCall 3 d_is_number (aCons (aSlot 2) (aCons (aVal (mNeg (mV (qC (.int (999)))))) (aCons (aVal (mV (qC (.int (999))))) aNil))))) mSkip) (mRet (mCall 3 d_is_number (aCons (aSlot 2) (aCons (aVal (mV (qC (.int (1))))) (aCons (aVal (mV (qIx (qVar 0) (qC (.int (1)))))) aNil))))))
def d_is_part : Den := denOf 3 3 m_is_part
def m_has_step_form : MS := mSeq (mIfS (mOr (mNot (mB (mIsT ["tuple"] [] [cBoxes, cProgram] (mV (qVar 1))))) (mOr (mB (mBin eqD (mC1 lenD (mR (qVar 1))) (mV (qC (.int (0)))))) (mNot (mB (mIsT ["str"] [] [cBoxes, cProgram] (mV (qIx (qVar 1) (qC (.int (0)))))))))) (mRet (mOwn (mV (qC (.bl false))))) mSkip) (mSeq (mIfS (mB (mC1 (tabNi tSTEP_SORTS) (mTup (mCons (mV (qIx (qVar 0) (qC (.int (0))))) (mCons (mV (qIx (qVar 1) (qC (.int (0))))) mNil))))) (mRet (mOwn (mV (qC (.bl false))))) mSkip) (mSeq (mSet 2 2 (mC1 (tabIx tSTEP_SORTS) (mTup (mCons (mV (qIx (qVar 0) (qC (.int (0))))) (mCons (mV (qIx (qVar 1) (qC (.int (0))))) mNil))))) (mRet (mOwn (vAnd (mBin eqD (mC1 lenD (mR (qVar 1))) (mBin addD (mC1 lenD (mR (qVar 2))) (mV (qC (.int (1)))))) (mC1 allD (mFrz (mComp (iZipM (mV (qVar 2)) (mSlL (mV (qVar 1)) (mV (qC (.int (1)))))) none (gT 2 (gNs (gW 3) (gNs (gW 4) gNs0))) tYesM (mFrz (mCall 3 d_is_part (aCons (aSlot 0) (aCons (aSlot 3) (aCons (aSlot 4) aNil))))) [3, 4]))))))))
def d_has_step_form : Den := denOf 5 2 m_has_step_form
def m_Boxes_init : MS := mSeq (mIfS (mOr (mNot (mB (mFrz (mCall 1 d_is_line (aCons (aSlot 1) aNil))))) (mNot (mB (mChain leD leD (mV (qC (.int (1)))) (mC1 lenD (mR (qVar 1))) (mV (qC (.int (6)))))))) (mRaise cNoBoxes "told" (mV (qC .non))) mSkip) (mSeq (mFld [cBoxes, cProgram] 0 "own_kinds" mDic0) (mForI (iEnumA (mV (qVar 1))) (gT 2 (gNs (gN 2 2) (gNs (gN 2 3) gNs0))) (mSeq (mIfS (mOr (mNot (mB (mFrz (mCall 2 d_is_tuple_of (aCons (aSlot 3) (aCons (aVal (mV (qC (.int (2))))) aNil)))))) (mOr (mNot (mB (mFrz (mCall 1 d_is_letter (aCons (aVal (mV (qIx (qVar 3) (qC (.int (0)))))) aNil))))) (mOr (mB (mBin inD (mV (qIx (qVar 3) (qC (.int (0))))) (mR (qAttr [cBoxes, cProgram] "own_kinds" (qVar 0))))) (mNot (mB (mFrz (mCall 1 d_is_kind (aCons (aVal (mV (qIx (qVar 3) (qC (.int (1)))))) aNil)))))))) (mRaise cNoBoxes "told" (mV (qVar 2))) mSkip) (mPutF [cBoxes, cProgram] 0 "own_kinds" (mV (qIx (qVar 3) (qC (.int (1))))) (qIx (qVar 3) (qC (.int (0))))))))
def d_Boxes_init : Den := denOf 4 2 m_Boxes_init
def m_Boxes_listed : MS := mRet (mCompK [cBoxes, cProgram] 0 "own_kinds" (gW 1) tYesM (mTup (mCons (mV (qVar 1)) (mCons (mV (qIx (qAttr [cBoxes, cProgram] "own_kinds" (qVar 0)) (qVar 1))) mNil))) [1])
def d_Boxes_listed : Den := denOf 2 1 m_Boxes_listed
def m_Boxes_has_name : MS := mRet (mOwn (vAnd (mIsT ["str"] [] [cBoxes, cProgram] (mV (qVar 1))) (mBin inD (mV (qVar 1)) (mR (qAttr [cBoxes, cProgram] "own_kinds" (qVar 0))))))
def d_Boxes_has_name : Den := denOf 2 2 m_Boxes_has_name
def m_Boxes_has_step : MS := mSeq (mIfS (mOr (mNot (mB (mFrz (mCall 2 d_is_tuple_of (aCons (aSlot 1) (aCons (aVal (mV (qC (.int (2))))) aNil)))))) (mNot (mB (mFrz (mMeth cBoxes "has_name" 2 d_Boxes_has_name (aSlot 0) (aCons (aVal (mV (qIx (qVar 1) (qC (.int (0)))))) aNil)))))) (mRet (mOwn (mV (qC (.bl false))))) mSkip) (mRet (mCall 2 d_has_step_form (aCons (aVal (mV (qIx (qAttr [cBoxes, cProgram] "own_kinds" (qVar 0)) (qIx (qVar 1) (qC (.int (0))))))) (aCons (aVal (mV (qIx (qVar 1) (qC (.int (1)))))) aNil))))
def d_Boxes_has_step : Den := denOf 2 2 m_Boxes_has_step
def m_check_boxes : MS := mIfS (mNot (mB (mIsT [] [cBoxes] [cBoxes, cProgram] (mV (qVar 0))))) (mRaise cNoBoxes "told" (mV (qVar 0))) mSkip
def d_check_boxes : Den := denOf 1 1 m_check_boxes
def m_is_mixed_row : MS := mRet (mOwn (vAnd (mIsT ["tuple"] [] [cBoxes, cProgram] (mV (qVar 1))) (vAnd (mBin leD (mC1 lenD (mR (qVar 1))) (mV (qC (.int (60))))) (mC1 allD (mFrz (mComp (iSeq (mV (qVar 1))) none (gW 2) tYesM (mFrz (mMeth cBoxes "has_step" 2 d_Boxes_has_step (aSlot 0) (aCons (aSlot 2) aNil))) [2]))))))
def d_is_mixed_row : Den := denOf 3 2 m_is_mixed_row
def m_is_act : MS := mSeq (mIfS (mOr (mNot (mB (mIsT ["tuple"] [] [cBoxes, cProgram] (mV (qVar 2))))) (mOr (mB (mBin niD (mC1 lenD (mR (qVar 2))) (mTup (mCons (mV (qC (.int (2)))) (mCons (mV (qC (.int (3)))) mNil))))) (mNot (mB (mIsT ["str"] [] [cBoxes, cProgram] (mV (qIx (qVar 2) (qC (.int (0)))))))))) (mRet (mOwn (mV (qC (.bl false))))) mSkip) (mSeq (mIfS (mB (mBin eqD (mV (qIx (qVar 2) (qC (.int (0))))) (mV (qC (.str "do"))))) (mRet (mOwn (vAnd (mBin eqD (mC1 lenD (mR (qVar 2))) (mV (qC (.int (3))))) (mFrz (mMeth cBoxes "has_step" 2 d_Boxes_has_step (aSlot 0) (aCons (aVal (mSlL (mV (qVar 2)) (mV (qC (.int (1)))))) aNil)))))) mSkip) (mSeq (mIfS (mB (mBin eqD (mV (qIx (qVar 2) (qC (.int (0))))) (mV (qC (.str "call"))))) (mRet (mOwn (vAnd (mBin eqD (mC1 lenD (mR (qVar 2))) (mV (qC (.int (2))))) (mFrz (mCall 2 d_is_one_of (aCons (aVal (mV (qIx (qVar 2) (qC (.int (1)))))) (aCons (aSlot 1) aNil))))))) mSkip) (mSeq (mIfS (mOr (mB (mBin neD (mV (qIx (qVar 2) (qC (.int (0))))) (mV (qC (.str "repeat"))))) (mOr (mB (mBin neD (mC1 lenD (mR (qVar 2))) (mV (qC (.int (3)))))) (mNot (mB (mFrz (mCall 2 d_is_one_of (aCons (aVal (mV (qIx (qVar 2) (qC (.int (2)))))) (aCons (aSlot 1) aNil)))))))) (mRet (mOwn (mV (qC (.bl false))))) mSkip) (mRet (mCall 3 d_is_number (aCons (aVal (mV (qIx (qVar 2) (qC (.int (1)))))) (aCons (aVal (mV (qC (.int (1))))) (aCons (aVal (mV (qC (.int (1000000000000))))) aNil))))))))
def d_is_act : Den := denOf 3 3 m_is_act
def m_is_program_part : MS := mSeq (mIfS (mOr (mNot (mB (mFrz (mCall 2 d_is_tuple_of (aCons (aSlot 2) (aCons (aVal (mV (qC (.int (2))))) aNil)))))) (mOr (mNot (mB (mFrz (mCall 1 d_is_letter (aCons (aVal (mV (qIx (qVar 2) (qC (.int (0)))))) aNil))))) (mB (mBin inD (mV (qIx (qVar 2) (qC (.int (0))))) (mR (qVar 1)))))) (mRet (mOwn (mV (qC (.bl false))))) mSkip) (mSeq (mIfS (mOr (mNot (mB (mIsT ["tuple"] [] [cBoxes, cProgram] (mV (qIx (qVar 2) (qC (.int (1)))))))) (mB (mBin gtD (mC1 lenD (mR (qIx (qVar 2) (qC (.int (1)))))) (mV (qC (.int (60))))))) (mRet (mOwn (mV (qC (.bl false))))) mSkip) (mRet (mOwn (mC1 allD (mFrz (mComp (iSeq (mV (qIx (qVar 2) (qC (.int (1)))))) none (gW 3) tYesM (mFrz (mCall 3 d_is_act (aCons (aSlot 0) (aCons (aSlot 1) (aCons (aSlot 3) aNil))))) [3]))))))
def d_is_program_part : Den := denOf 4 3 m_is_program_part
def m_Program_boxes : MS := mRet (mOwn (mV (qAttr [cBoxes, cProgram] "own_boxes" (qVar 0))))
def d_Program_boxes : Den := denOf 1 1 m_Program_boxes
def m_Program_names : MS := mRet (mOwn (mC1 listD (mR (qAttr [cBoxes, cProgram] "own_acts" (qVar 0)))))
def d_Program_names : Den := denOf 1 1 m_Program_names
def m_Program_parts : MS := mRet (mOwn (mC1 tupleD (mFrz (mCompK [cBoxes, cProgram] 0 "own_acts" (gW 1) tYesM (mTup (mCons (mV (qVar 1)) (mCons (mV (qIx (qAttr [cBoxes, cProgram] "own_acts" (qVar 0)) (qVar 1))) mNil))) [1]))))
def d_Program_parts : Den := denOf 2 1 m_Program_parts
def m_Program_acts_of : MS := mSeq (mIfS (mNot (mB (mFrz (mCall 2 d_is_one_of (aCons (aSlot 1) (aCons (aVal (mFrz (mMeth cProgram "names" 1 d_Program_names (aSlot 0) aNil))) aNil)))))) (mRaise cNoPart "told" (mV (qVar 1))) mSkip) (mRet (mOwn (mV (qIx (qAttr [cBoxes, cProgram] "own_acts" (qVar 0)) (qVar 1)))))
def d_Program_acts_of : Den := denOf 2 2 m_Program_acts_of
def m_check_program : MS := mIfS (mNot (mB (mIsT [] [cProgram] [cBoxes, cProgram] (mV (qVar 0))))) (mRaise cNoProgram "told" (mV (qVar 0))) mSkip
def d_check_program : Den := denOf 1 1 m_check_program
def m_reached_parts : MS := mSeq (mDrop (mCall 1 d_check_program (aCons (aSlot 0) aNil))) mBad
def d_reached_parts : Den := denOf 4 1 m_reached_parts
def m__law_pool : MS := mSeq (mSet 2 2 (mV (qC (.int (0))))) (mSeq (mIfS (mB (mBin ltD (mV (qVar 1)) (mC1 lenD (mR (qVar 0))))) (mSet 2 2 (mV (qIx (qVar 0) (qVar 1)))) mSkip) (mSeq (mSet 2 3 (mCB maxD (mCons (mCB intD (mCons (mV (qVar 2)) mNil)) (mCons (mCB intD (mCons (mBin subD (mNeg (mV (qC (.int (1))))) (mV (qVar 2))) mNil)) mNil)))) (mSeq (mSet 2 4 (mBin modD (mCB intD (mCons (mBin mulD (mBin addD (mBin addD (mBin addD (mBin modD (mCB intD (mCons (mV (qVar 3)) mNil)) (mV (qC (.int (2147483629))))) (mBin mulD (mBin mulD (mV (qC (.int (7919)))) (mV (qVar 1))) (mV (qVar 1)))) (mBin mulD (mV (qC (.int (31)))) (mV (qVar 1)))) (mV (qC (.int (17))))) (mV (qC (.int (48271))))) mNil)) (mV (qC (.int (2147483647)))))) (mRet (mLstO (mCons (mBin mulD (mV (qVar 3)) (mCB intD (mCons (mBin geD (mV (qVar 3)) (mBin powD (mV (qC (.int (10)))) (mV (qC (.int (18)))))) mNil))) (mCons (mV (qVar 4)) mNil)))))))
def d__law_pool : Den := denOf 5 2 m__law_pool
def m__law_take : MS := mSeq (mIfS (mB (mBin gtD (mV (qIx (qVar 0) (qC (.int (0))))) (mV (qC (.int (0)))))) (mSeq (mSet 2 2 (mBin modD (mCB intD (mCons (mV (qIx (qVar 0) (qC (.int (0))))) mNil)) (mV (qVar 1)))) (mSeq (mSetIx 0 (mBin divD (mV (qIx (qVar 0) (qC (.int (0))))) (mV (qVar 1))) (mV (qC (.int (0))))) (mRetV 2 2))) mSkip) (mSeq (mSetIx 0 (mBin modD (mCB intD (mCons (mBin addD (mBin mulD (mV (qIx (qVar 0) (qC (.int (1))))) (mV (qC (.int (39373))))) (mV (qC (.int (7))))) mNil)) (mV (qC (.int (2147483647))))) (mV (qC (.int (1))))) (mRet (mOwn (mBin modD (mCB intD (mCons (mBin divD (mBin modD (mCB intD (mCons (mBin mulD (mV (qIx (qVar 0) (qC (.int (1))))) (mV (qIx (qVar 0) (qC (.int (1)))))) mNil)) (mV (qC (.int (2147483629))))) (mV (qC (.int (32))))) mNil)) (mV (qVar 1))))))
def d__law_take : Den := denOf 3 2 m__law_take
def m__law_one : MS := mRet (mOwn (mIx (mV (qVar 1)) (mFrz (mCall 2 d__law_take (aCons (aSlot 0) (aCons (aVal (mC1 lenD (mR (qVar 1)))) aNil))))))
def d__law_one : Den := denOf 2 2 m__law_one
def m__law_kind_of : MS := mSeq (mIfS (mB (mBin eqD (mV (qVar 1)) (mV (qC (.str "ring"))))) (mRet (mOwn (mTup (mCons (mV (qC (.str "ring"))) (mCons (mFrz (mCall 2 d__law_one (aCons (aSlot 0) (aCons (aVal (mLst (mCons (mV (qC (.int (1)))) (mCons (mV (qC (.int (2)))) (mCons (mV (qC (.int (3)))) (mCons (mV (qC (.int (4)))) mNil)))))) aNil)))) (mCons (mFrz (mCall 2 d__law_one (aCons (aSlot 0) (aCons (aVal (mLst (mCons (mV (qC (.str "drop"))) (mCons (mV (qC (.str "ignore"))) (mCons (mV (qC (.str "fail"))) mNil))))) aNil)))) mNil)))))) mSkip) (mSeq (mIfS (mB (mBin eqD (mV (qVar 1)) (mV (qC (.str "gauge"))))) (mRet (mOwn (mTup (mCons (mV (qC (.str "gauge"))) (mCons (mFrz (mCall 2 d__law_one (aCons (aSlot 0) (aCons (aVal (mLst (mCons (mV (qC (.int (1)))) (mCons (mV (qC (.int (2)))) (mCons (mV (qC (.int (5)))) (mCons (mV (qC (.int (9)))) mNil)))))) aNil)))) (mCons (mFrz (mCall 2 d__law_one (aCons (aSlot 0) (aCons (aVal (mLst (mCons (mV (qC (.str "stop"))) (mCons (mV (qC (.str "fail"))) mNil)))) aNil)))) mNil)))))) mSkip) (mRet (mOwn (mTup (mCons (mV (qVar 1)) mNil)))))
def d__law_kind_of : Den := denOf 2 2 m__law_kind_of
def m__law_step : MS := mSeq (mPar 3 3 4 (mCons (mFrz (mCall 2 d__law_one (aCons (aSlot 0) (aCons (aSlot 2) aNil)))) (mCons (mFrz (mCall 2 d__law_take (aCons (aSlot 0) (aCons (aVal (mV (qC (.int (2))))) aNil)))) mNil))) (mSeq (mIfS (mB (mBin eqD (mV (qIx (qVar 1) (qC (.int (0))))) (mV (qC (.str "stack"))))) (mRet (mOwn (mTup (mCons (mIf (mB (mBin eqD (mV (qVar 4)) (mV (qC (.int (0)))))) (mV (qC (.str "push"))) (mV (qC (.str "pop")))) (mCons (mV (qVar 3)) mNil))))) mSkip) (mSeq (mIfS (mB (mBin eqD (mV (qIx (qVar 1) (qC (.int (0))))) (mV (qC (.str "queue"))))) (mRet (mOwn (mTup (mCons (mIf (mB (mBin eqD (mV (qVar 4)) (mV (qC (.int (0)))))) (mV (qC (.str "put"))) (mV (qC (.str "take")))) (mCons (mV (qVar 3)) mNil))))) mSkip) (mSeq (mIfS (mB (mBin eqD (mV (qIx (qVar 1) (qC (.int (0))))) (mV (qC (.str "ring"))))) (mRet (mOwn (mIf (mB (mBin eqD (mV (qVar 4)) (mV (qC (.int (0)))))) (mTup (mCons (mV (qC (.str "put"))) (mCons (mV (qVar 3)) mNil))) (mTup (mCons (mV (qC (.str "take"))) mNil))))) mSkip) (mSeq (mIfS (mB (mBin eqD (mV (qIx (qVar 1) (qC (.int (0))))) (mV (qC (.str "tape"))))) (mRet (mCall 2 d__law_one (aCons (aSlot 0) (aCons (aVal (mLst (mCons (mTup (mCons (mV (qC (.str "left"))) mNil)) (mCons (mTup (mCons (mV (qC (.str "right"))) mNil)) (mCons (mTup (mCons (mV (qC (.str "write"))) (mCons (mV (qVar 3)) mNil))) (mCons (mTup (mCons (mV (qC (.str "expect"))) (mCons (mV (qVar 3)) mNil))) (mCons (mTup (mCons (mV (qC (.str "right"))) mNil)) mNil))))))) aNil)))) mSkip) (mSeq (mIfS (mB (mBin eqD (mV (qIx (qVar 1) (qC (.int (0))))) (mV (qC (.str "heap"))))) (mRet (mOwn (mIf (mB (mBin eqD (mV (qVar 4)) (mV (qC (.int (0)))))) (mTup (mCons (mV (qC (.str "insert"))) (mCons (mFrz (mCall 2 d__law_one (aCons (aSlot 0) (aCons (aVal (mLst (mCons (mNeg (mV (qC (.int (999))))) (mCons (mNeg (mV (qC (.int (1))))) (mCons (mV (qC (.int (0)))) (mCons (mV (qC (.int (3)))) (mCons (mV (qC (.int (3)))) (mCons (mV (qC (.int (5)))) (mCons (mV (qC (.int (999)))) mNil))))))))) aNil)))) mNil))) (mTup (mCons (mV (qC (.str "least"))) mNil))))) mSkip) (mSeq (mIfS (mB (mBin eqD (mV (qIx (qVar 1) (qC (.int (0))))) (mV (qC (.str "gauge"))))) (mRet (mOwn (mTup (mCons (mIf (mB (mBin eqD (mV (qVar 4)) (mV (qC (.int (0)))))) (mV (qC (.str "add"))) (mV (qC (.str "sub")))) (mCons (mBin addD (mV (qC (.int (1)))) (mFrz (mCall 2 d__law_take (aCons (aSlot 0) (aCons (aVal (mCB minD (mCons (mCB intD (mCons (mV (qIx (qVar 1) (qC (.int (1))))) mNil)) (mCons (mV (qC (.int (4)))) mNil)))) aNil))))) mNil))))) mSkip) (mSeq (mSetO 3 5 (mCall 2 d__law_one (aCons (aSlot 0) (aCons (aVal (mLst (mCons (mV (qC (.str "n"))) (mCons (mV (qC (.str "m"))) (mCons (mV (qC (.str "name"))) mNil))))) aNil)))) (mRet (mCall 2 d__law_one (aCons (aSlot 0) (aCons (aVal (mLst (mCons (mTup (mCons (mV (qC (.str "set"))) (mCons (mV (qVar 5)) (mCons (mV (qVar 3)) mNil)))) (mCons (mTup (mCons (mV (qC (.str "clear"))) (mCons (mV (qVar 5)) mNil))) (mCons (mTup (mCons (mV (qC (.str "expect"))) (mCons (mV (qVar 5)) (mCons (mV (qVar 3)) mNil)))) (mCons (mTup (mCons (mV (qC (.str "absent"))) (mCons (mV (qVar 5)) mNil))) mNil)))))) aNil)))))))))))
def d__law_step : Den := denOf 6 3 m__law_step
def m__law_rounds : MS := mRet (mOwn (mC1 listRgD (mCB maxD (mCons (mV (qC (.int (1)))) (mCons (mCB minD (mCons (mC1 lenD (mR (qVar 0))) (mCons (mV (qVar 1)) mNil))) mNil)))))
def d__law_rounds : Den := denOf 2 2 m__law_rounds
def m__law_length (self : Den) : MS := mSeq (mSet 2 2 (mV (qC (.int (0))))) (mSeq (mFor (mIx (mC1 dictD (mR (qVar 0))) (mV (qVar 1))) (gN 2 3) (mIfS (mB (mBin eqD (mV (qIx (qVar 3) (qC (.int (0))))) (mV (qC (.str "do"))))) (mSet 2 2 (mBin addD (mV (qVar 2)) (mV (qC (.int (1)))))) (mIfS (mB (mBin eqD (mV (qIx (qVar 3) (qC (.int (0))))) (mV (qC (.str "call"))))) (mSet 2 2 (mBin addD (mV (qVar 2)) (mFrz (mCall 2 self (aCons (aSlot 0) (aCons (aVal (mV (qIx (qVar 3) (qC (.int (1)))))) aNil)))))) (mSet 2 2 (mBin addD (mV (qVar 2)) (mBin mulD (mV (qIx (qVar 3) (qC (.int (1))))) (mFrz (mCall 2 self (aCons (aSlot 0) (aCons (aVal (mV (qIx (qVar 3) (qC (.int (2)))))) aNil)))))))))) (mRetV 2 2))
def d__law_length : Nat → Den
  | 0 => fun _ => .bad
  | n + 1 => denOf 4 2 (m__law_length (d__law_length n))
def m__law_act : MS := mSeq (mSet 3 3 (mFrz (mComp (iSlot 2) (some 2) (gT 2 (gNs (gW 5) (gNs (gW 7) gNs0))) (mB (mBin leD (mFrz (mCall 2 (d__law_length 5) (aCons (aSlot 2) (aCons (aSlot 5) aNil)))) (mV (qC (.int (15)))))) (mV (qVar 5)) [5, 7]))) (mSeq (mSetO 3 4 (mCall 2 d__law_take (aCons (aSlot 0) (aCons (aVal (mV (qC (.int (5))))) aNil)))) (mSeq (mIfS (mOr (mB (mBin eqD (mV (qVar 3)) (mLst mNil))) (mB (mBin ltD (mV (qVar 4)) (mV (qC (.int (2))))))) (mSeq (mAsg (mFrz (mCall 2 d__law_one (aCons (aSlot 0) (aCons (aSlot 1) aNil)))) (gT 2 (gNs (gN 3 5) (gNs (gN 3 6) gNs0)))) (mRet (mOwn (mTup (mCons (mV (qC (.str "do"))) (mCons (mV (qVar 5)) (mCons (mFrz (mCall 3 d__law_step (aCons (aSlot 0) (aCons (aSlot 6) (aCons (aVal (mLst (mCons (mV (qC (.str "a"))) (mCons (mV (qC (.str "b"))) mNil)))) aNil))))) mNil))))))) mSkip) (mSeq (mIfS (mB (mBin eqD (mV (qVar 4)) (mV (qC (.int (2)))))) (mRet (mOwn (mTup (mCons (mV (qC (.str "call"))) (mCons (mFrz (mCall 2 d__law_one (aCons (aSlot 0) (aCons (aSlot 3) aNil)))) mNil))))) mSkip) (mRet (mOwn (mTup (mCons (mV (qC (.str "repeat"))) (mCons (mBin addD (mV (qC (.int (1)))) (mFrz (mCall 2 d__law_take (aCons (aSlot 0) (aCons (aVal (mV (qC (.int (3))))) aNil))))) (mCons (mFrz (mCall 2 d__law_one (aCons (aSlot 0) (aCons (aSlot 3) aNil)))) mNil)))))))))
def d__law_act : Den := denOf 8 3 m__law_act
def m__law_parts : MS := mSeq (mSetO 3 3 (mLstO mNil)) (mSeq (mFor (mSlL (mLst (mCons (mV (qC (.str "p"))) (mCons (mV (qC (.str "q"))) (mCons (mV (qC (.str "r"))) (mCons (mV (qC (.str "main"))) mNil))))) (mBin subD (mNeg (mV (qC (.int (1))))) (mFrz (mCall 2 d__law_take (aCons (aSlot 0) (aCons (aSlot 2) aNil)))))) (gN 3 4) (mSeq (mSet 3 5 (mFrz (mComp (iRange1 (mFrz (mCall 2 d__law_one (aCons (aSlot 0) (aCons (aVal (mLst (mCons (mV (qC (.int (0)))) (mCons (mV (qC (.int (1)))) (mCons (mV (qC (.int (2)))) (mCons (mV (qC (.int (3)))) (mCons (mV (qC (.int (4)))) (mCons (mV (qC (.int (4)))) mNil)))))))) aNil))))) none (gW 6) tYesM (mFrz (mCall 3 d__law_act (aCons (aSlot 0) (aCons (aSlot 1) (aCons (aSlot 3) aNil))))) [6]))) (mApp0 3 (mTup (mCons (mV (qVar 4)) (mCons (mC1 tupleD (mR (qVar 5))) mNil)))))) (mRet (mOwn (mC1 tupleD (mR (qVar 3))))))
def d__law_parts : Den := denOf 7 3 m__law_parts
def m__law_wrong_part : MS := mSeq (mAsg (mV (qIx (qVar 1) (qC (.int (0))))) (gT 2 (gNs (gN 3 3) (gNs (gN 3 4) gNs0)))) (mSeq (mSetO 3 5 (mCall 3 d__law_step (aCons (aSlot 0) (aCons (aSlot 4) (aCons (aVal (mLst (mCons (mV (qC (.str "a"))) mNil))) aNil))))) (mSeq (mSet 3 6 (mLst (mCons (mTup (mCons (mTup (mCons (mV (qC (.str "do"))) (mCons (mV (qC (.str "none"))) (mCons (mV (qVar 5)) mNil)))) mNil)) (mCons (mTup (mCons (mTup (mCons (mV (qC (.str "do"))) (mCons (mV (qVar 3)) (mCons (mTup (mCons (mV (qC (.str "jump"))) mNil)) mNil)))) mNil)) (mCons (mTup (mCons (mTup (mCons (mV (qC (.str "call"))) (mCons (mV (qC (.str "zz"))) mNil))) mNil)) (mCons (mTup (mCons (mTup (mCons (mV (qC (.str "repeat"))) (mCons (mV (qC (.int (0)))) (mCons (mV (qC (.str "p"))) mNil)))) mNil)) (mCons (mTup (mCons (mTup (mCons (mV (qC (.str "jump"))) mNil)) mNil)) mNil))))))) (mSeq (mSet 3 6 (mBin addD (mV (qVar 6)) (mLst (mCons (mLst (mCons (mTup (mCons (mV (qC (.str "do"))) (mCons (mV (qVar 3)) (mCons (mV (qVar 5)) mNil)))) mNil)) (mCons (mV (qC .non)) (mCons (mTup (mCons (mTup (mCons (mV (qC (.str "do"))) (mCons (mV (qVar 3)) mNil))) mNil)) (mCons (mTup (mCons (mTup (mCons (mV (qC (.str "call"))) (mCons (mV (qC (.str "w"))) mNil))) mNil)) (mCons (mBin mulD (mTup (mCons (mTup (mCons (mV (qC (.str "do"))) (mCons (mV (qVar 3)) (mCons (mV (qVar 5)) mNil)))) mNil)) (mV (qC (.int (61))))) mNil)))))))) (mSeq (mSet 3 6 (mBin addD (mV (qVar 6)) (mLst (mCons (mTup (mCons (mTup (mCons (mV (qC (.str "repeat"))) (mCons (mV (qC (.bl true))) (mCons (mV (qVar 3)) mNil)))) mNil)) (mCons (mTup (mCons (mTup (mCons (mV (qC (.str "do"))) (mCons (mV (qVar 3)) (mCons (mC1 listD (mR (qVar 5))) mNil)))) mNil)) (mCons (mTup (mCons (mTup mNil) mNil)) (mCons (mTup (mCons (mV (qC .non)) mNil)) (mCons (mTup (mCons (mTup (mCons (mV (qC (.str "call"))) (mCons (mV (qVar 3)) (mCons (mV (qVar 3)) mNil)))) mNil)) mNil)))))))) (mSeq (mIfS (mB (mBin neD (mV (qVar 2)) (mLst mNil))) (mSeq (mSet 3 6 (mBin addD (mV (qVar 6)) (mLst (mCons (mTup (mCons (mTup (mCons (mV (qC (.str "repeat"))) (mCons (mV (qC (.int (0)))) (mCons (mV (qIx (qVar 2) (qC (.int (0))))) mNil)))) mNil)) (mCons (mTup (mCons (mTup (mCons (mV (qC (.str "repeat"))) (mCons (mBin addD (mBin powD (mV (qC (.int (10)))) (mV (qC (.int (12))))) (mV (qC (.int (1))))) (mCons (mV (qIx (qVar 2) (qC (.int (0))))) mNil)))) mNil)) (mCons (mTup (mCons (mTup (mCons (mV (qC (.str "repeat"))) (mCons (mV (qC (.str "2"))) (mCons (mV (qIx (qVar 2) (qC (.int (0))))) mNil)))) mNil)) mNil)))))) (mIfS (mB (mBin eqD (mFrz (mCall 2 d__law_take (aCons (aSlot 0) (aCons (aVal (mV (qC (.int (4))))) aNil)))) (mV (qC (.int (0)))))) (mRet (mOwn (mTup (mCons (mV (qIx (qVar 2) (qC (.int (0))))) (mCons (mTup mNil) mNil))))) mSkip)) mSkip) (mSeq (mSetO 3 7 (mCall 2 d__law_one (aCons (aSlot 0) (aCons (aVal (mLst (mCons (mV (qC .non)) (mCons (mTup (mCons (mV (qC (.str "w"))) mNil)) (mCons (mLst (mCons (mV (qC (.str "w"))) (mCons (mTup mNil) mNil))) (mCons (mTup (mCons (mV (qC (.str "W"))) (mCons (mTup mNil) mNil))) (mCons (mTup (mCons (mV (qC (.int (5)))) (mCons (mTup mNil) mNil))) (mCons (mTup (mCons (mV (qC (.str "wwwww"))) (mCons (mTup mNil) mNil))) (mCons (mTup (mCons (mV (qC (.str "w"))) (mCons (mTup mNil) (mCons (mTup mNil) mNil)))) (mCons (mV (qC (.str "w"))) mNil)))))))))) aNil)))) (mRet (mOwn (mIf (mB (mBin eqD (mFrz (mCall 2 d__law_take (aCons (aSlot 0) (aCons (aVal (mV (qC (.int (2))))) aNil)))) (mV (qC (.int (0)))))) (mTup (mCons (mV (qC (.str "w"))) (mCons (mFrz (mCall 2 d__law_one (aCons (aSlot 0) (aCons (aSlot 6) aNil)))) mNil))) (mV (qVar 7)))))))))))
def d__law_wrong_part : Den := denOf 8 3 m__law_wrong_part
def m_Boxes_eq : MS := mRet (mOwn (vAnd (mIsT [] [cBoxes] [cBoxes, cProgram] (mV (qVar 1))) (mBin eqD (mFrz (mMeth cBoxes "listed" 1 d_Boxes_listed (aSlot 0) aNil)) (mFrz (mMeth cBoxes "listed" 1 d_Boxes_listed (aSlot 1) aNil)))))
def d_Boxes_eq : Den := denOf 2 2 m_Boxes_eq
def m_Program_init : MS := mSeq (mDrop (mCall 1 d_check_boxes (aCons (aSlot 1) aNil))) (mSeq (mIfS (mOr (mNot (mB (mFrz (mCall 1 d_is_line (aCons (aSlot 2) aNil))))) (mNot (mB (mChain leD leD (mV (qC (.int (1)))) (mC1 lenD (mR (qVar 2))) (mV (qC (.int (6)))))))) (mRaise cNoProgram "told" (mV (qC .non))) mSkip) (mSeq (mFld [cBoxes, cProgram] 0 "own_boxes" (mOwn (mV (qVar 1)))) (mSeq (mFld [cBoxes, cProgram] 0 "own_acts" mDic0) (mForI (iEnumA (mV (qVar 2))) (gT 2 (gNs (gN 3 3) (gNs (gN 3 4) gNs0))) (mSeq (mIfS (mNot (mB (mFrz (mCall 3 d_is_program_part (aCons (aSlot 1) (aCons (aVal (mFrz (mMeth cProgram "names" 1 d_Program_names (aSlot 0) aNil))) (aCons (aSlot 4) aNil))))))) (mRaise cNoProgram "told" (mV (qVar 3))) mSkip) (mPutF [cBoxes, cProgram] 0 "own_acts" (mV (qIx (qVar 4) (qC (.int (1))))) (qIx (qVar 4) (qC (.int (0))))))))))
def d_Program_init : Den := denOf 5 3 m_Program_init
def m_Program_eq : MS := mSeq (mIfS (mOr (mNot (mB (mIsT [] [cProgram] [cBoxes, cProgram] (mV (qVar 1))))) (mB (mBin (orD neD (neT cBoxes [cBoxes, cProgram] d_Boxes_eq)) (mV (qAttr [cBoxes, cProgram] "own_boxes" (qVar 0))) (mV (qAttr [cBoxes, cProgram] "own_boxes" (qVar 1)))))) (mRet (mOwn (mV (qC (.bl false))))) mSkip) (mRet (mOwn (mBin (orD eqD (eqT cBoxes [cBoxes, cProgram] d_Boxes_eq)) (mFrz (mMeth cProgram "parts" 1 d_Program_parts (aSlot 0) aNil)) (mFrz (mMeth cProgram "parts" 1 d_Program_parts (aSlot 1) aNil)))))
def d_Program_eq : Den := denOf 2 2 m_Program_eq
def m_Program_from_row : MS := mSeq (mIfS (mNot (mB (mIsT [] [cBoxes] [cBoxes, cProgram] (mV (qVar 0))))) (mRaise cNoBoxes "told" (mV (qVar 0))) mSkip) (mSeq (mIfS (mNot (mB (mFrz (mCall 2 d_is_mixed_row (aCons (aSlot 0) (aCons (aSlot 1) aNil)))))) (mRaise cNoRow "told" (mV (qVar 1))) mSkip) (mRet (mMake cProgram 3 d_Program_init (aCons (aSlot 0) (aCons (aVal (mTup (mCons (mTup (mCons (mV (qC (.str "main"))) (mCons (mC1 tupleD (mFrz (mComp (iSeq (mV (qVar 1))) none (gW 2) tYesM (mTup (mCons (mV (qC (.str "do"))) (mStar (mV (qVar 2)) mNil))) [2]))) mNil))) mNil))) aNil)))))
def d_Program_from_row : Den := denOf 3 2 m_Program_from_row
def m__law_kind : MS := mSeq (mSet 1 1 (mLst (mCons (mV (qC (.str "stack"))) (mCons (mV (qC (.str "queue"))) (mCons (mV (qC (.str "tape"))) (mCons (mV (qC (.str "heap"))) (mCons (mV (qC (.str "table"))) (mCons (mV (qC (.str "ring"))) (mCons (mV (qC (.str "gauge"))) mNil))))))))) (mRet (mCall 2 d__law_kind_of (aCons (aSlot 0) (aCons (aVal (mFrz (mCall 2 d__law_one (aCons (aSlot 0) (aCons (aSlot 1) aNil))))) aNil))))
def d__law_kind : Den := denOf 2 1 m__law_kind
def m__law_pairs : MS := mSeq (mSet 2 2 (mSlH (mLst (mCons (mV (qC (.str "s"))) (mCons (mV (qC (.str "q"))) (mCons (mV (qC (.str "copy"))) (mCons (mV (qC (.str "z"))) mNil))))) (mBin addD (mV (qC (.int (1)))) (mFrz (mCall 2 d__law_take (aCons (aSlot 0) (aCons (aSlot 1) aNil))))))) (mRet (mOwn (mC1 tupleD (mFrz (mComp (iSeq (mV (qVar 2))) none (gW 3) tYesM (mTup (mCons (mV (qVar 3)) (mCons (mFrz (mCall 1 d__law_kind (aCons (aSlot 0) aNil))) mNil))) [3])))))
def d__law_pairs : Den := denOf 4 2 m__law_pairs
def m__law_made : MS := mTryT cEXC 2 (mRet (mOwn (mTup (mCons (mV (qC (.str "made"))) (mCons (mFrz (mMeth cProgram "parts" 1 d_Program_parts (aVal (mFrz (mMake cProgram 3 d_Program_init (aCons (aSlot 0) (aCons (aSlot 1) aNil))))) aNil)) mNil))))) [(cNoBoxes, hRepr cEXC "told" (.str "boxes")), (cNoProgram, hTold cEXC "told" (.str "program"))]
def d__law_made : Den := denOf 3 2 m__law_made
def m__law_other : MS := mSeq (mTryT cEXC 3 (mIfS (mB (mBin eqD (mV (qVar 0)) (mV (qC (.int (0)))))) (mDrop (mMeth cProgram "acts_of" 2 d_Program_acts_of (aSlot 1) (aCons (aSlot 2) aNil))) (mIfS (mB (mBin eqD (mV (qVar 0)) (mV (qC (.int (1)))))) (mDrop (mCall 2 d_Program_from_row (aCons (aVal (mFrz (mMeth cProgram "boxes" 1 d_Program_boxes (aSlot 1) aNil))) (aCons (aSlot 2) aNil)))) (mIfS (mB (mBin eqD (mV (qVar 0)) (mV (qC (.int (2)))))) (mDrop (mCall 2 d_Program_from_row (aCons (aSlot 2) (aCons (aVal (mTup mNil)) aNil)))) (mDrop (mCall 1 d_reached_parts (aCons (aSlot 2) aNil)))))) [(cNoPart, hRepr cEXC "told" (.str "part")), (cNoRow, hRepr cEXC "told" (.str "row")), (cNoBoxes, hRepr cEXC "told" (.str "boxes")), (cNoProgram, hRepr cEXC "told" (.str "program"))]) (mRet (mOwn (mV (qC .non))))
def d__law_other : Den := denOf 4 3 m__law_other
def m__law_refused : MS := mSeq (mSetO 5 5 (mCall 2 d__law_take (aCons (aSlot 0) (aCons (aVal (mBin addD (mC1 lenD (mR (qVar 4))) (mV (qC (.int (1)))))) aNil)))) (mSeq (mSetO 5 6 (mCall 3 d__law_wrong_part (aCons (aSlot 0) (aCons (aSlot 3) (aCons (aVal (mFrz (mComp (iSeq (mSlH (mV (qVar 4)) (mV (qVar 5)))) none (gT 2 (gNs (gW 11) (gNs (gW 12) gNs0))) tYesM (mV (qVar 11)) [11, 12]))) aNil))))) (mSeq (mSet 5 7 (mBin addD (mBin addD (mC1 listD (mSlH (mV (qVar 4)) (mV (qVar 5)))) (mLst (mCons (mV (qVar 6)) mNil))) (mC1 listD (mSlL (mV (qVar 4)) (mV (qVar 5)))))) (mSeq (mIfS (mB (mBin neD (mFrz (mCall 2 d__law_made (aCons (aSlot 2) (aCons (aSlot 7) aNil)))) (mTup (mCons (mV (qC (.str "program"))) (mCons (mV (qVar 5)) mNil))))) (mRet (mOwn (mV (qC (.bl false))))) mSkip) (mSeq (mFor (mLst (mCons (mV (qC .non)) (mCons (mV (qC (.int (5)))) (mCons (mTup mNil) (mCons (mLst mNil) (mCons (mV (qC (.str "main"))) (mCons (mFrz mDic0) mNil))))))) (gN 5 8) (mIfS (mOr (mB (mBin neD (mFrz (mCall 2 d__law_made (aCons (aSlot 2) (aCons (aSlot 8) aNil)))) (mTup (mCons (mV (qC (.str "program"))) (mCons (mV (qC .non)) mNil))))) (mB (mBin neD (mFrz (mCall 2 d__law_made (aCons (aSlot 8) (aCons (aVal (mV (qC .non))) aNil)))) (mTup (mCons (mV (qC (.str "boxes"))) (mCons (mCB reprL (mCons (mV (qVar 8)) mNil)) mNil)))))) (mRet (mOwn (mV (qC (.bl false))))) mSkip)) (mSeq (mSet 5 9 (mBin addD (mFrz (mComp (iRange2 (mV (qC (.int (1)))) (mV (qC (.int (5))))) none (gW 13) tYesM (mTup (mCons (mBin mulD (mV (qC (.str "a"))) (mV (qVar 13))) (mCons (mTup mNil) mNil))) [13])) (mFrz (mComp (iRange2 (mV (qC (.int (1)))) (mV (qC (.int (4))))) none (gW 13) tYesM (mTup (mCons (mBin mulD (mV (qC (.str "b"))) (mV (qVar 13))) (mCons (mTup mNil) mNil))) [13])))) (mSeq (mIfS (mOr (mB (mBin neD (mFrz (mCall 2 d__law_made (aCons (aSlot 2) (aCons (aSlot 9) aNil)))) (mTup (mCons (mV (qC (.str "program"))) (mCons (mV (qC .non)) mNil))))) (mB (mBin neD (mIx (mFrz (mCall 2 d__law_made (aCons (aSlot 2) (aCons (aVal (mSlH (mV (qVar 9)) (mV (qC (.int (6)))))) aNil)))) (mV (qC (.int (0))))) (mV (qC (.str "made")))))) (mRet (mOwn (mV (qC (.bl false))))) mSkip) (mSeq (mSetO 5 8 (mCall 2 d__law_one (aCons (aSlot 0) (aCons (aVal (mLst (mCons (mV (qC .non)) (mCons (mV (qC (.int (3)))) (mCons (mV (qC (.str "zz"))) (mCons (mTup (mCons (mV (qC (.str "main"))) mNil)) (mCons (mLst (mCons (mTup (mCons (mV (qC (.str "s"))) (mCons (mTup (mCons (mV (qC (.str "pop"))) (mCons (mV (qC (.str "a"))) mNil))) mNil))) mNil)) (mCons (mTup (mCons (mTup (mCons (mV (qC (.str "none"))) (mCons (mTup (mCons (mV (qC (.str "pop"))) (mCons (mV (qC (.str "a"))) mNil))) mNil))) mNil)) mNil)))))))) aNil)))) (mSeq (mSet 5 10 (mLst (mCons (mV (qC (.str "part"))) (mCons (mV (qC (.str "row"))) (mCons (mV (qC (.str "boxes"))) (mCons (mV (qC (.str "program"))) mNil)))))) (mRet (mOwn (mBin eqD (mFrz (mComp (iRange1 (mV (qC (.int (4))))) none (gW 14) (mB (mBin neD (mFrz (mCall 3 d__law_other (aCons (aSlot 14) (aCons (aSlot 1) (aCons (aSlot 8) aNil))))) (mTup (mCons (mV (qIx (qVar 10) (qVar 14))) (mCons (mCB reprL (mCons (mV (qVar 8)) mNil)) mNil))))) (mV (qVar 14)) [14])) (mLst mNil))))))))))))
def d__law_refused : Den := denOf 15 5 m__law_refused
def m_law : MS := mSeq (mFor (mFrz (mCall 2 d__law_rounds (aCons (aSlot 0) (aCons (aVal (mV (qC (.int (3))))) aNil)))) (gN 1 1) (mSeq (mSetO 1 2 (mCall 2 d__law_pool (aCons (aSlot 0) (aCons (aSlot 1) aNil)))) (mSeq (mSetO 1 3 (mCall 2 d__law_pairs (aCons (aSlot 2) (aCons (aVal (mV (qC (.int (3))))) aNil)))) (mSeq (mPar 1 4 5 (mCons (mFrz (mMake cBoxes 2 d_Boxes_init (aCons (aSlot 3) aNil))) (mCons (mFrz (mCall 3 d__law_parts (aCons (aSlot 2) (aCons (aSlot 3) (aCons (aVal (mV (qC (.int (4))))) aNil))))) mNil))) (mSeq (mSet 1 6 (mFrz (mMake cProgram 3 d_Program_init (aCons (aSlot 4) (aCons (aVal (mFrz (mCall 2 d__law_one (aCons (aSlot 2) (aCons (aVal (mLst (mCons (mV (qVar 5)) (mCons (mC1 listD (mR (qVar 5))) mNil)))) aNil))))) aNil))))) (mSeq (mIfS (mOr (mB (mBin (orD (orD neD (neT cBoxes [cBoxes, cProgram] d_Boxes_eq)) (neT cProgram [cBoxes, cProgram] d_Program_eq)) (mFrz (mMeth cProgram "parts" 1 d_Program_parts (aSlot 6) aNil)) (mV (qVar 5)))) (mOr (mB (mBin (orD (orD neD (neT cBoxes [cBoxes, cProgram] d_Boxes_eq)) (neT cProgram [cBoxes, cProgram] d_Program_eq)) (mFrz (mMeth cProgram "boxes" 1 d_Program_boxes (aSlot 6) aNil)) (mV (qVar 4)))) (mB (mBin (orD (orD neD (neT cBoxes [cBoxes, cProgram] d_Boxes_eq)) (neT cProgram [cBoxes, cProgram] d_Program_eq)) (mFrz (mMeth cProgram "names" 1 d_Program_names (aSlot 6) aNil)) (mFrz (mComp (iSeq (mV (qVar 5))) none (gT 2 (gNs (gW 11) (gNs (gW 12) gNs0))) tYesM (mV (qVar 11)) [11, 12])))))) (mRet (mOwn (mV (qC (.bl false))))) mSkip) (mSeq (mIfS (mB (mBin (orD (orD neD (neT cBoxes [cBoxes, cProgram] d_Boxes_eq)) (neT cProgram [cBoxes, cProgram] d_Program_eq)) (mFrz (mComp (iSeq (mV (qVar 5))) none (gT 2 (gNs (gW 11) (gNs (gW 12) gNs0))) (mB (mBin (orD (orD neD (neT cBoxes [cBoxes, cProgram] d_Boxes_eq)) (neT cProgram [cBoxes, cProgram] d_Program_eq)) (mFrz (mMeth cProgram "acts_of" 2 d_Program_acts_of (aSlot 6) (aCons (aSlot 11) aNil))) (mV (qVar 12)))) (mV (qVar 11)) [11, 12])) (mLst mNil))) (mRet (mOwn (mV (qC (.bl false))))) mSkip) (mSeq (mSetO 1 7 (mLstO (mCons (mFrz (mMake cProgram 3 d_Program_init (aCons (aSlot 4) (aCons (aSlot 5) aNil)))) (mCons (mFrz (mMake cProgram 3 d_Program_init (aCons (aSlot 4) (aCons (aVal (mBin addD (mSlH (mV (qVar 5)) (mNeg (mV (qC (.int (1)))))) (mTup (mCons (mTup (mCons (mV (qC (.str "main"))) (mCons (mTup mNil) mNil))) mNil)))) aNil)))) mNil)))) (mSeq (mApp0 7 (mFrz (mMake cProgram 3 d_Program_init (aCons (aSlot 4) (aCons (aVal (mBin addD (mTup (mCons (mTup (mCons (mV (qC (.str "x"))) (mCons (mTup mNil) mNil))) mNil)) (mV (qVar 5)))) aNil))))) (mSeq (mApp0 7 (mFrz (mMake cProgram 3 d_Program_init (aCons (aVal (mFrz (mMake cBoxes 2 d_Boxes_init (aCons (aVal (mBin addD (mV (qVar 3)) (mTup (mCons (mTup (mCons (mV (qC (.str "more"))) (mCons (mTup (mCons (mV (qC (.str "heap"))) mNil)) mNil))) mNil)))) aNil)))) (aCons (aSlot 5) aNil))))) (mSeq (mApp0 7 (mFrz (mMake cProgram 3 d_Program_init (aCons (aVal (mFrz (mMake cBoxes 2 d_Boxes_init (aCons (aVal (mRev (mV (qVar 3)) (mNeg (mV (qC (.int (1))))))) aNil)))) (aCons (aSlot 5) aNil))))) (mSeq (mSet 1 8 (mLst (mCons (mV (qC (.bl true))) (mCons (mBin (orD (orD eqD (eqT cBoxes [cBoxes, cProgram] d_Boxes_eq)) (eqT cProgram [cBoxes, cProgram] d_Program_eq)) (mIx (mV (qVar 5)) (mNeg (mV (qC (.int (1)))))) (mTup (mCons (mV (qC (.str "main"))) (mCons (mTup mNil) mNil)))) (mCons (mV (qC (.bl false))) (mCons (mV (qC (.bl false))) (mCons (mBin (orD (orD eqD (eqT cBoxes [cBoxes, cProgram] d_Boxes_eq)) (eqT cProgram [cBoxes, cProgram] d_Program_eq)) (mC1 lenD (mR (qVar 3))) (mV (qC (.int (1))))) mNil))))))) (mSeq (mIfS (mOr (mB (mBin (orD (orD neD (neT cBoxes [cBoxes, cProgram] d_Boxes_eq)) (neT cProgram [cBoxes, cProgram] d_Program_eq)) (mFrz (mComp (iSlot 7) (some 7) (gW 13) tYesM (mBin (orD (orD eqD (eqT cBoxes [cBoxes, cProgram] d_Boxes_eq)) (eqT cProgram [cBoxes, cProgram] d_Program_eq)) (mV (qVar 6)) (mV (qVar 13))) [13])) (mV (qVar 8)))) (mB (mBin (orD (orD eqD (eqT cBoxes [cBoxes, cProgram] d_Boxes_eq)) (eqT cProgram [cBoxes, cProgram] d_Program_eq)) (mV (qVar 6)) (mV (qVar 5))))) (mRet (mOwn (mV (qC (.bl false))))) mSkip) (mSeq (mSet 1 9 (mC1 tupleD (mFrz (mComp (iSeq (mV (qVar 3))) none (gT 2 (gNs (gW 11) (gNs (gW 14) gNs0))) tYesM (mTup (mCons (mV (qVar 11)) (mCons (mFrz (mCall 3 d__law_step (aCons (aSlot 2) (aCons (aSlot 14) (aCons (aVal (mLst (mCons (mV (qC (.str "a"))) mNil))) aNil))))) mNil))) [11, 14])))) (mSeq (mSet 1 10 (mFrz (mCall 2 d_Program_from_row (aCons (aSlot 4) (aCons (aSlot 9) aNil))))) (mSeq (mIfS (mOr (mB (mBin (orD (orD neD (neT cBoxes [cBoxes, cProgram] d_Boxes_eq)) (neT cProgram [cBoxes, cProgram] d_Program_eq)) (mFrz (mMeth cProgram "parts" 1 d_Program_parts (aSlot 10) aNil)) (mTup (mCons (mTup (mCons (mV (qC (.str "main"))) (mCons (mC1 tupleD (mFrz (mComp (iSeq (mV (qVar 9))) none (gW 15) tYesM (mBin addD (mTup (mCons (mV (qC (.str "do"))) mNil)) (mV (qVar 15))) [15]))) mNil))) mNil)))) (mB (mBin (orD (orD neD (neT cBoxes [cBoxes, cProgram] d_Boxes_eq)) (neT cProgram [cBoxes, cProgram] d_Program_eq)) (mFrz (mMeth cProgram "names" 1 d_Program_names (aSlot 10) aNil)) (mLst (mCons (mV (qC (.str "main"))) mNil))))) (mRet (mOwn (mV (qC (.bl false))))) mSkip) (mIfS (mNot (mB (mFrz (mCall 5 d__law_refused (aCons (aSlot 2) (aCons (aSlot 6) (aCons (aSlot 4) (aCons (aSlot 3) (aCons (aSlot 5) aNil))))))))) (mRet (mOwn (mV (qC (.bl false))))) mSkip))))))))))))))))) (mRet (mOwn (mV (qC (.bl true)))))
def d_law : Den := denOf 16 1 m_law
end K84

set_option maxRecDepth 100000
set_option maxHeartbeats 0
noncomputable section
namespace K84
open PySem PySem.Spec L2 DL
open PyProof.Rows hiding St
abbrev P : Program := PySem.Challenge.pw_boxeffects_k84_programs_built
def topS (i : Nat) : Stmt := P.main.body.getD i (.Pass ⟨0, 0, 0, 0⟩)
def inS (i j : Nat) : Stmt := (clsBody (topS i)).getD j (.Pass ⟨0, 0, 0, 0⟩)
def frees : List Str := ["all", "bool", "dict", "enumerate", "int", "isinstance", "len", "list", "max", "min", "range", "repr", "str", "super", "tuple", "zip"]
abbrev st_is_whole : Stmt := topS 18
def D_is_whole : DefA := ⟨139, "is_whole", "is_whole", defArgs st_is_whole, defBody st_is_whole, defScope st_is_whole, []⟩
abbrev st_is_number : Stmt := topS 19
def D_is_number : DefA := ⟨146, "is_number", "is_number", defArgs st_is_number, defBody st_is_number, defScope st_is_number, []⟩
abbrev st_is_line : Stmt := topS 20
def D_is_line : DefA := ⟨153, "is_line", "is_line", defArgs st_is_line, defBody st_is_line, defScope st_is_line, []⟩
abbrev st_is_tuple_of : Stmt := topS 21
def D_is_tuple_of : DefA := ⟨160, "is_tuple_of", "is_tuple_of", defArgs st_is_tuple_of, defBody st_is_tuple_of, defScope st_is_tuple_of, []⟩
abbrev st_is_one_of : Stmt := topS 22
def D_is_one_of : DefA := ⟨167, "is_one_of", "is_one_of", defArgs st_is_one_of, defBody st_is_one_of, defScope st_is_one_of, []⟩
abbrev st_is_letter : Stmt := topS 23
def D_is_letter : DefA := ⟨172, "is_letter", "is_letter", defArgs st_is_letter, defBody st_is_letter, defScope st_is_letter, []⟩
abbrev st_is_kind : Stmt := topS 24
def D_is_kind : DefA := ⟨179, "is_kind", "is_kind", defArgs st_is_kind, defBody st_is_kind, defScope st_is_kind, []⟩
abbrev st_is_part : Stmt := topS 25
def D_is_part : DefA := ⟨186, "is_part", "is_part", defArgs st_is_part, defBody st_is_part, defScope st_is_part, []⟩
abbrev st_has_step_form : Stmt := topS 26
def D_has_step_form : DefA := ⟨191, "has_step_form", "has_step_form", defArgs st_has_step_form, defBody st_has_step_form, defScope st_has_step_form, []⟩
abbrev st_Boxes_init : Stmt := inS 29 0
def D_Boxes_init : DefA := ⟨205, "__init__", "Boxes.__init__", defArgs st_Boxes_init, defBody st_Boxes_init, defScope st_Boxes_init, []⟩
abbrev st_Boxes_listed : Stmt := inS 29 2
def D_Boxes_listed : DefA := ⟨217, "listed", "Boxes.listed", defArgs st_Boxes_listed, defBody st_Boxes_listed, defScope st_Boxes_listed, []⟩
abbrev st_Boxes_has_name : Stmt := inS 29 5
def D_Boxes_has_name : DefA := ⟨238, "has_name", "Boxes.has_name", defArgs st_Boxes_has_name, defBody st_Boxes_has_name, defScope st_Boxes_has_name, []⟩
abbrev st_Boxes_has_step : Stmt := inS 29 7
def D_Boxes_has_step : DefA := ⟨252, "has_step", "Boxes.has_step", defArgs st_Boxes_has_step, defBody st_Boxes_has_step, defScope st_Boxes_has_step, []⟩
abbrev st_check_boxes : Stmt := topS 30
def D_check_boxes : DefA := ⟨266, "check_boxes", "check_boxes", defArgs st_check_boxes, defBody st_check_boxes, defScope st_check_boxes, []⟩
abbrev st_is_mixed_row : Stmt := topS 31
def D_is_mixed_row : DefA := ⟨271, "is_mixed_row", "is_mixed_row", defArgs st_is_mixed_row, defBody st_is_mixed_row, defScope st_is_mixed_row, []⟩
abbrev st_is_act : Stmt := topS 34
def D_is_act : DefA := ⟨278, "is_act", "is_act", defArgs st_is_act, defBody st_is_act, defScope st_is_act, []⟩
abbrev st_is_program_part : Stmt := topS 35
def D_is_program_part : DefA := ⟨283, "is_program_part", "is_program_part", defArgs st_is_program_part, defBody st_is_program_part, defScope st_is_program_part, []⟩
abbrev st_Program_boxes : Stmt := inS 40 2
def D_Program_boxes : DefA := ⟨318, "boxes", "Program.boxes", defArgs st_Program_boxes, defBody st_Program_boxes, defScope st_Program_boxes, []⟩
abbrev st_Program_names : Stmt := inS 40 3
def D_Program_names : DefA := ⟨325, "names", "Program.names", defArgs st_Program_names, defBody st_Program_names, defScope st_Program_names, []⟩
abbrev st_Program_parts : Stmt := inS 40 4
def D_Program_parts : DefA := ⟨330, "parts", "Program.parts", defArgs st_Program_parts, defBody st_Program_parts, defScope st_Program_parts, []⟩
abbrev st_Program_acts_of : Stmt := inS 40 5
def D_Program_acts_of : DefA := ⟨337, "acts_of", "Program.acts_of", defArgs st_Program_acts_of, defBody st_Program_acts_of, defScope st_Program_acts_of, []⟩
abbrev st_check_program : Stmt := topS 41
def D_check_program : DefA := ⟨359, "check_program", "check_program", defArgs st_check_program, defBody st_check_program, defScope st_check_program, []⟩
abbrev st_reached_parts : Stmt := topS 42
def D_reached_parts : DefA := ⟨364, "reached_parts", "reached_parts", defArgs st_reached_parts, defBody st_reached_parts, defScope st_reached_parts, []⟩
abbrev st__law_pool : Stmt := topS 44
def D__law_pool : DefA := ⟨371, "_law_pool", "_law_pool", defArgs st__law_pool, defBody st__law_pool, defScope st__law_pool, []⟩
abbrev st__law_take : Stmt := topS 45
def D__law_take : DefA := ⟨378, "_law_take", "_law_take", defArgs st__law_take, defBody st__law_take, defScope st__law_take, []⟩
abbrev st__law_one : Stmt := topS 46
def D__law_one : DefA := ⟨385, "_law_one", "_law_one", defArgs st__law_one, defBody st__law_one, defScope st__law_one, []⟩
abbrev st__law_kind_of : Stmt := topS 48
def D__law_kind_of : DefA := ⟨399, "_law_kind_of", "_law_kind_of", defArgs st__law_kind_of, defBody st__law_kind_of, defScope st__law_kind_of, []⟩
abbrev st__law_step : Stmt := topS 49
def D__law_step : DefA := ⟨406, "_law_step", "_law_step", defArgs st__law_step, defBody st__law_step, defScope st__law_step, []⟩
abbrev st__law_rounds : Stmt := topS 50
def D__law_rounds : DefA := ⟨413, "_law_rounds", "_law_rounds", defArgs st__law_rounds, defBody st__law_rounds, defScope st__law_rounds, []⟩
abbrev st__law_length : Stmt := topS 52
def D__law_length : DefA := ⟨425, "_law_length", "_law_length", defArgs st__law_length, defBody st__law_length, defScope st__law_length, []⟩
abbrev st__law_act : Stmt := topS 53
def D__law_act : DefA := ⟨430, "_law_act", "_law_act", defArgs st__law_act, defBody st__law_act, defScope st__law_act, []⟩
abbrev st__law_parts : Stmt := topS 54
def D__law_parts : DefA := ⟨435, "_law_parts", "_law_parts", defArgs st__law_parts, defBody st__law_parts, defScope st__law_parts, []⟩
abbrev st__law_wrong_part : Stmt := topS 55
def D__law_wrong_part : DefA := ⟨442, "_law_wrong_part", "_law_wrong_part", defArgs st__law_wrong_part, defBody st__law_wrong_part, defScope st__law_wrong_part, []⟩
abbrev st_Boxes_eq : Stmt := inS 29 1
def D_Boxes_eq : DefA := ⟨212, "__eq__", "Boxes.__eq__", defArgs st_Boxes_eq, defBody st_Boxes_eq, defScope st_Boxes_eq, []⟩
abbrev st_Program_init : Stmt := inS 40 0
def D_Program_init : DefA := ⟨304, "__init__", "Program.__init__", defArgs st_Program_init, defBody st_Program_init, defScope st_Program_init, []⟩
abbrev st_Program_eq : Stmt := inS 40 1
def D_Program_eq : DefA := ⟨311, "__eq__", "Program.__eq__", defArgs st_Program_eq, defBody st_Program_eq, defScope st_Program_eq, []⟩
abbrev st_Program_from_row : Stmt := inS 40 6
def D_Program_from_row : DefA := ⟨342, "from_row", "Program.from_row", defArgs st_Program_from_row, defBody st_Program_from_row, defScope st_Program_from_row, []⟩
abbrev st__law_kind : Stmt := topS 47
def D__law_kind : DefA := ⟨392, "_law_kind", "_law_kind", defArgs st__law_kind, defBody st__law_kind, defScope st__law_kind, []⟩
abbrev st__law_pairs : Stmt := topS 51
def D__law_pairs : DefA := ⟨418, "_law_pairs", "_law_pairs", defArgs st__law_pairs, defBody st__law_pairs, defScope st__law_pairs, []⟩
abbrev st__law_made : Stmt := topS 56
def D__law_made : DefA := ⟨449, "_law_made", "_law_made", defArgs st__law_made, defBody st__law_made, defScope st__law_made, []⟩
abbrev st__law_other : Stmt := topS 57
def D__law_other : DefA := ⟨456, "_law_other", "_law_other", defArgs st__law_other, defBody st__law_other, defScope st__law_other, []⟩
abbrev st__law_refused : Stmt := topS 58
def D__law_refused : DefA := ⟨461, "_law_refused", "_law_refused", defArgs st__law_refused, defBody st__law_refused, defScope st__law_refused, []⟩
abbrev st_law : Stmt := topS 59
def D_law : DefA := ⟨466, "law", "law", defArgs st_law, defBody st_law, defScope st_law, []⟩
abbrev st_BoxError_init : Stmt := inS 2 0
def D_BoxError_init : DefA := ⟨37, "__init__", "BoxError.__init__", defArgs st_BoxError_init, defBody st_BoxError_init, defScope st_BoxError_init, [("__class__", 25)]⟩
def defs : List DefA := [D_is_whole, D_is_number, D_is_line, D_is_tuple_of, D_is_one_of, D_is_letter, D_is_kind, D_is_part, D_has_step_form, D_Boxes_init, D_Boxes_listed, D_Boxes_has_name, D_Boxes_has_step, D_check_boxes, D_is_mixed_row, D_is_act, D_is_program_part, D_Program_boxes, D_Program_names, D_Program_parts, D_Program_acts_of, D_check_program, D_reached_parts, D__law_pool, D__law_take, D__law_one, D__law_kind_of, D__law_step, D__law_rounds, D__law_length, D__law_act, D__law_parts, D__law_wrong_part, D_Boxes_eq, D_Program_init, D_Program_eq, D_Program_from_row, D__law_kind, D__law_pairs, D__law_made, D__law_other, D__law_refused, D_law, D_BoxError_init]
/-- what is asked of the written part -/
def facts : List (PySem.W.Frag → Bool) := [
  fun K => atB K "is_whole" 139,
  fun K => atB K "is_number" 146,
  fun K => atB K "is_line" 153,
  fun K => atB K "is_tuple_of" 160,
  fun K => atB K "is_one_of" 167,
  fun K => atB K "is_letter" 172,
  fun K => atB K "is_kind" 179,
  fun K => atB K "is_part" 186,
  fun K => atB K "has_step_form" 191,
  fun K => atB K "check_boxes" 266,
  fun K => atB K "is_mixed_row" 271,
  fun K => atB K "is_act" 278,
  fun K => atB K "is_program_part" 283,
  fun K => atB K "check_program" 359,
  fun K => atB K "reached_parts" 364,
  fun K => atB K "_law_pool" 371,
  fun K => atB K "_law_take" 378,
  fun K => atB K "_law_one" 385,
  fun K => atB K "_law_kind_of" 399,
  fun K => atB K "_law_step" 406,
  fun K => atB K "_law_rounds" 413,
  fun K => atB K "_law_length" 425,
  fun K => atB K "_law_act" 430,
  fun K => atB K "_law_parts" 435,
  fun K => atB K "_law_wrong_part" 442,
  fun K => atB K "_law_kind" 392,
  fun K => atB K "_law_pairs" 418,
  fun K => atB K "_law_made" 449,
  fun K => atB K "_law_other" 456,
  fun K => atB K "_law_refused" 461,
  fun K => atB K "law" 466,
  fun K => atB K "Boxes" cBoxes,
  fun K => atB K "Program" cProgram,
  fun K => atB K "BoxError" cBoxError,
  fun K => atB K "NoRow" cNoRow,
  fun K => atB K "NoBoxes" cNoBoxes,
  fun K => atB K "NoProgram" cNoProgram,
  fun K => atB K "NoPart" cNoPart,
  fun K => atB K "STEP_SORTS" 95,
  fun K => freeB K frees,
  fun K => conB K "ALPHABET" (.str "abcdefghijklmnopqrstuvwxyz"),
  fun K => conB K "GAUGE_MODES" (.tup [.str "stop", .str "fail"]),
  fun K => conB K "MAIN_NAME" (.str "main"),
  fun K => conB K "MOST_BOXES" (.int (6)),
  fun K => conB K "MOST_GAUGE" (.int (999)),
  fun K => conB K "MOST_INSERTED" (.int (999)),
  fun K => conB K "MOST_PARTS" (.int (6)),
  fun K => conB K "MOST_RING" (.int (12)),
  fun K => conB K "MOST_SIGNS" (.int (4)),
  fun K => conB K "MOST_STEPS" (.int (60)),
  fun K => conB K "MOST_TIMES" (.int (1000000000000)),
  fun K => conB K "RING_MODES" (.tup [.str "drop", .str "ignore", .str "fail"]),
  fun K => conB K "SIMPLE_KINDS" (.tup [.str "stack", .str "queue", .str "tape", .str "heap", .str "table"]),
  fun K => [cBoxes, cProgram].all (insB K),
  fun K => [cBoxes, cProgram].all (fun C => noB K C "own_kinds"),
  fun K => [cBoxes, cProgram].all (fun C => noB K C "own_boxes"),
  fun K => [cBoxes, cProgram].all (fun C => noB K C "own_acts"),
  fun K => isiB K ["int", "bool"] [] [cBoxes, cProgram] [.type "int"],
  fun K => isiB K ["bool"] [] [cBoxes, cProgram] [.type "bool"],
  fun K => isiB K ["list", "tuple"] [] [cBoxes, cProgram] [.type "list", .type "tuple"],
  fun K => isiB K ["tuple"] [] [cBoxes, cProgram] [.type "tuple"],
  fun K => isiB K ["str"] [] [cBoxes, cProgram] [.type "str"],
  fun K => isiB K [] [cBoxes] [cBoxes, cProgram] [.ref cBoxes],
  fun K => isiB K [] [cProgram] [cBoxes, cProgram] [.ref cProgram],
  fun K => excsB K cEXC,
  fun K => fldB K cEXC "told",
  fun K => mkB K cBoxes 205,
  fun K => methB K cBoxes "listed" 217,
  fun K => methB K cBoxes "has_name" 238,
  fun K => methB K cBoxes "has_step" 252,
  fun K => methB K cProgram "boxes" 318,
  fun K => methB K cProgram "names" 325,
  fun K => methB K cProgram "parts" 330,
  fun K => methB K cProgram "acts_of" 337,
  fun K => eqB K cBoxes [cBoxes, cProgram],
  fun K => eqfB K cBoxes 212,
  fun K => neB K cBoxes,
  fun K => mkB K cProgram 304,
  fun K => eqB K cProgram [cBoxes, cProgram],
  fun K => eqfB K cProgram 311,
  fun K => neB K cProgram,
  fun K => stB K cProgram 342 "from_row",
  fun K => boxB P K 37 25 cBoxError,
  fun K => supB K cBoxError cNoRow 37,
  fun K => supB K cBoxError cNoBoxes 37,
  fun K => supB K cBoxError cNoProgram 37,
  fun K => supB K cBoxError cNoPart 37,
  fun K => oxB K cNoRow "told",
  fun K => oxB K cNoBoxes "told",
  fun K => oxB K cNoProgram "told",
  fun K => oxB K cNoPart "told",
  fun K => nolB K]
structure Tx (w : World) (K : PySem.W.Frag) (mg : Str → Option Value) : Prop where
  g_is_whole : mg "is_whole" = some (.ref D_is_whole.at_)
  g_is_number : mg "is_number" = some (.ref D_is_number.at_)
  g_is_line : mg "is_line" = some (.ref D_is_line.at_)
  g_is_tuple_of : mg "is_tuple_of" = some (.ref D_is_tuple_of.at_)
  g_is_one_of : mg "is_one_of" = some (.ref D_is_one_of.at_)
  g_is_letter : mg "is_letter" = some (.ref D_is_letter.at_)
  g_is_kind : mg "is_kind" = some (.ref D_is_kind.at_)
  g_is_part : mg "is_part" = some (.ref D_is_part.at_)
  g_has_step_form : mg "has_step_form" = some (.ref D_has_step_form.at_)
  g_check_boxes : mg "check_boxes" = some (.ref D_check_boxes.at_)
  g_is_mixed_row : mg "is_mixed_row" = some (.ref D_is_mixed_row.at_)
  g_is_act : mg "is_act" = some (.ref D_is_act.at_)
  g_is_program_part : mg "is_program_part" = some (.ref D_is_program_part.at_)
  g_check_program : mg "check_program" = some (.ref D_check_program.at_)
  g_reached_parts : mg "reached_parts" = some (.ref D_reached_parts.at_)
  g__law_pool : mg "_law_pool" = some (.ref D__law_pool.at_)
  g__law_take : mg "_law_take" = some (.ref D__law_take.at_)
  g__law_one : mg "_law_one" = some (.ref D__law_one.at_)
  g__law_kind_of : mg "_law_kind_of" = some (.ref D__law_kind_of.at_)
  g__law_step : mg "_law_step" = some (.ref D__law_step.at_)
  g__law_rounds : mg "_law_rounds" = some (.ref D__law_rounds.at_)
  g__law_length : mg "_law_length" = some (.ref D__law_length.at_)
  g__law_act : mg "_law_act" = some (.ref D__law_act.at_)
  g__law_parts : mg "_law_parts" = some (.ref D__law_parts.at_)
  g__law_wrong_part : mg "_law_wrong_part" = some (.ref D__law_wrong_part.at_)
  g__law_kind : mg "_law_kind" = some (.ref D__law_kind.at_)
  g__law_pairs : mg "_law_pairs" = some (.ref D__law_pairs.at_)
  g__law_made : mg "_law_made" = some (.ref D__law_made.at_)
  g__law_other : mg "_law_other" = some (.ref D__law_other.at_)
  g__law_refused : mg "_law_refused" = some (.ref D__law_refused.at_)
  g_law : mg "law" = some (.ref D_law.at_)
  g_Boxes : mg "Boxes" = some (.ref cBoxes)
  g_Program : mg "Program" = some (.ref cProgram)
  g_BoxError : mg "BoxError" = some (.ref cBoxError)
  g_NoRow : mg "NoRow" = some (.ref cNoRow)
  g_NoBoxes : mg "NoBoxes" = some (.ref cNoBoxes)
  g_NoProgram : mg "NoProgram" = some (.ref cNoProgram)
  g_NoPart : mg "NoPart" = some (.ref cNoPart)
  g_STEP_SORTS : mg "STEP_SORTS" = some (.ref 95)
  free : ∀ x ∈ frees, mg x = none
  con_ALPHABET : ConD K mg "ALPHABET" (.str "abcdefghijklmnopqrstuvwxyz")
  con_GAUGE_MODES : ConD K mg "GAUGE_MODES" (.tup [.str "stop", .str "fail"])
  con_MAIN_NAME : ConD K mg "MAIN_NAME" (.str "main")
  con_MOST_BOXES : ConD K mg "MOST_BOXES" (.int (6))
  con_MOST_GAUGE : ConD K mg "MOST_GAUGE" (.int (999))
  con_MOST_INSERTED : ConD K mg "MOST_INSERTED" (.int (999))
  con_MOST_PARTS : ConD K mg "MOST_PARTS" (.int (6))
  con_MOST_RING : ConD K mg "MOST_RING" (.int (12))
  con_MOST_SIGNS : ConD K mg "MOST_SIGNS" (.int (4))
  con_MOST_STEPS : ConD K mg "MOST_STEPS" (.int (60))
  con_MOST_TIMES : ConD K mg "MOST_TIMES" (.int (1000000000000))
  con_RING_MODES : ConD K mg "RING_MODES" (.tup [.str "drop", .str "ignore", .str "fail"])
  con_SIMPLE_KINDS : ConD K mg "SIMPLE_KINDS" (.tup [.str "stack", .str "queue", .str "tape", .str "heap", .str "table"])
  ins : ∀ C ∈ [cBoxes, cProgram], InsOk K C
  at_own_kinds : ∀ C ∈ [cBoxes, cProgram], L2.Cls K C ∧ L2.NoAttr K C "own_kinds"
  at_own_boxes : ∀ C ∈ [cBoxes, cProgram], L2.Cls K C ∧ L2.NoAttr K C "own_boxes"
  at_own_acts : ∀ C ∈ [cBoxes, cProgram], L2.Cls K C ∧ L2.NoAttr K C "own_acts"
  is_int : isiB K ["int", "bool"] [] [cBoxes, cProgram] [.type "int"] = true
  is_bool : isiB K ["bool"] [] [cBoxes, cProgram] [.type "bool"] = true
  is_list_tuple : isiB K ["list", "tuple"] [] [cBoxes, cProgram] [.type "list", .type "tuple"] = true
  is_tuple : isiB K ["tuple"] [] [cBoxes, cProgram] [.type "tuple"] = true
  is_str : isiB K ["str"] [] [cBoxes, cProgram] [.type "str"] = true
  is_Boxes : isiB K [] [cBoxes] [cBoxes, cProgram] [.ref cBoxes] = true
  is_Program : isiB K [] [cProgram] [cBoxes, cProgram] [.ref cProgram] = true
  excs : excsB K cEXC = true
  fld_told : fldB K cEXC "told" = true
  mk_Boxes : L2.Mk K cBoxes D_Boxes_init.at_
  me_Boxes_listed : L2.Meth K cBoxes "listed" D_Boxes_listed.at_
  me_Boxes_has_name : L2.Meth K cBoxes "has_name" D_Boxes_has_name.at_
  me_Boxes_has_step : L2.Meth K cBoxes "has_step" D_Boxes_has_step.at_
  me_Program_boxes : L2.Meth K cProgram "boxes" D_Program_boxes.at_
  me_Program_names : L2.Meth K cProgram "names" D_Program_names.at_
  me_Program_parts : L2.Meth K cProgram "parts" D_Program_parts.at_
  me_Program_acts_of : L2.Meth K cProgram "acts_of" D_Program_acts_of.at_
  eq_Boxes : eqB K cBoxes [cBoxes, cProgram] = true
  eqf_Boxes : PySem.W.findIn K (.ref cBoxes) "__eq__" = some (some (.ref D_Boxes_eq.at_)) ∧ PySem.W.isFn K (.ref D_Boxes_eq.at_) = true
  ne_Boxes : PySem.W.findIn K (.ref cBoxes) "__ne__" = some (some (.builtin "object.__ne__")) ∧ PySem.W.subIn K (.ref cBoxes) (.type "object") = some true
  mk_Program : L2.Mk K cProgram D_Program_init.at_
  eq_Program : eqB K cProgram [cBoxes, cProgram] = true
  eqf_Program : PySem.W.findIn K (.ref cProgram) "__eq__" = some (some (.ref D_Program_eq.at_)) ∧ PySem.W.isFn K (.ref D_Program_eq.at_) = true
  ne_Program : PySem.W.findIn K (.ref cProgram) "__ne__" = some (some (.builtin "object.__ne__")) ∧ PySem.W.subIn K (.ref cProgram) (.type "object") = some true
  st_Program_from_row : Stm K cProgram D_Program_from_row.at_ "from_row"
  box_BoxError : boxB P K D_BoxError_init.at_ 25 cBoxError = true
  sup_NoRow : supB K cBoxError cNoRow D_BoxError_init.at_ = true
  sup_NoBoxes : supB K cBoxError cNoBoxes D_BoxError_init.at_ = true
  sup_NoProgram : supB K cBoxError cNoProgram D_BoxError_init.at_ = true
  sup_NoPart : supB K cBoxError cNoPart D_BoxError_init.at_ = true
  ox_NoRow : ExcB K cNoRow "told"
  ox_NoBoxes : ExcB K cNoBoxes "told"
  ox_NoProgram : ExcB K cNoProgram "told"
  ox_NoPart : ExcB K cNoPart "told"
  nol : ∀ a o, K.lookup a = some o → o.cls ≠ .type "list"
  tab_STEP_SORTS : Tab P w K 95 tSTEP_SORTS
  fn_is_whole : FunA K D_is_whole
  fn_is_number : FunA K D_is_number
  fn_is_line : FunA K D_is_line
  fn_is_tuple_of : FunA K D_is_tuple_of
  fn_is_one_of : FunA K D_is_one_of
  fn_is_letter : FunA K D_is_letter
  fn_is_kind : FunA K D_is_kind
  fn_is_part : FunA K D_is_part
  fn_has_step_form : FunA K D_has_step_form
  fn_Boxes_init : FunA K D_Boxes_init
  fn_Boxes_listed : FunA K D_Boxes_listed
  fn_Boxes_has_name : FunA K D_Boxes_has_name
  fn_Boxes_has_step : FunA K D_Boxes_has_step
  fn_check_boxes : FunA K D_check_boxes
  fn_is_mixed_row : FunA K D_is_mixed_row
  fn_is_act : FunA K D_is_act
  fn_is_program_part : FunA K D_is_program_part
  fn_Program_boxes : FunA K D_Program_boxes
  fn_Program_names : FunA K D_Program_names
  fn_Program_parts : FunA K D_Program_parts
  fn_Program_acts_of : FunA K D_Program_acts_of
  fn_check_program : FunA K D_check_program
  fn_reached_parts : FunA K D_reached_parts
  fn__law_pool : FunA K D__law_pool
  fn__law_take : FunA K D__law_take
  fn__law_one : FunA K D__law_one
  fn__law_kind_of : FunA K D__law_kind_of
  fn__law_step : FunA K D__law_step
  fn__law_rounds : FunA K D__law_rounds
  fn__law_length : FunA K D__law_length
  fn__law_act : FunA K D__law_act
  fn__law_parts : FunA K D__law_parts
  fn__law_wrong_part : FunA K D__law_wrong_part
  fn_Boxes_eq : FunA K D_Boxes_eq
  fn_Program_init : FunA K D_Program_init
  fn_Program_eq : FunA K D_Program_eq
  fn_Program_from_row : FunA K D_Program_from_row
  fn__law_kind : FunA K D__law_kind
  fn__law_pairs : FunA K D__law_pairs
  fn__law_made : FunA K D__law_made
  fn__law_other : FunA K D__law_other
  fn__law_refused : FunA K D__law_refused
  fn_law : FunA K D_law
  fn_BoxError_init : FunA K D_BoxError_init
theorem tx_of {w : World} {K : PySem.W.Frag} {mg : Str → Option Value} (mk : MgK K mg) (fs : ∀ (i : Nat) f, facts[i]? = some f → f K = true) (fn : ∀ (i : Nat) d, defs[i]? = some d → FunA K d) (h_STEP_SORTS : Tab P w K 95 tSTEP_SORTS) : Tx w K mg where
  g_is_whole := atB_ok mk (fs 0 _ rfl)
  g_is_number := atB_ok mk (fs 1 _ rfl)
  g_is_line := atB_ok mk (fs 2 _ rfl)
  g_is_tuple_of := atB_ok mk (fs 3 _ rfl)
  g_is_one_of := atB_ok mk (fs 4 _ rfl)
  g_is_letter := atB_ok mk (fs 5 _ rfl)
  g_is_kind := atB_ok mk (fs 6 _ rfl)
  g_is_part := atB_ok mk (fs 7 _ rfl)
  g_has_step_form := atB_ok mk (fs 8 _ rfl)
  g_check_boxes := atB_ok mk (fs 9 _ rfl)
  g_is_mixed_row := atB_ok mk (fs 10 _ rfl)
  g_is_act := atB_ok mk (fs 11 _ rfl)
  g_is_program_part := atB_ok mk (fs 12 _ rfl)
  g_check_program := atB_ok mk (fs 13 _ rfl)
  g_reached_parts := atB_ok mk (fs 14 _ rfl)
  g__law_pool := atB_ok mk (fs 15 _ rfl)
  g__law_take := atB_ok mk (fs 16 _ rfl)
  g__law_one := atB_ok mk (fs 17 _ rfl)
  g__law_kind_of := atB_ok mk (fs 18 _ rfl)
  g__law_step := atB_ok mk (fs 19 _ rfl)
  g__law_rounds := atB_ok mk (fs 20 _ rfl)
  g__law_length := atB_ok mk (fs 21 _ rfl)
  g__law_act := atB_ok mk (fs 22 _ rfl)
  g__law_parts := atB_ok mk (fs 23 _ rfl)
  g__law_wrong_part := atB_ok mk (fs 24 _ rfl)
  g__law_kind := atB_ok mk (fs 25 _ rfl)
  g__law_pairs := atB_ok mk (fs 26 _ rfl)
  g__law_made := atB_ok mk (fs 27 _ rfl)
  g__law_other := atB_ok mk (fs 28 _ rfl)
  g__law_refused := atB_ok mk (fs 29 _ rfl)
  g_law := atB_ok mk (fs 30 _ rfl)
  g_Boxes := atB_ok mk (fs 31 _ rfl)
  g_Program := atB_ok mk (fs 32 _ rfl)
  g_BoxError := atB_ok mk (fs 33 _ rfl)
  g_NoRow := atB_ok mk (fs 34 _ rfl)
  g_NoBoxes := atB_ok mk (fs 35 _ rfl)
  g_NoProgram := atB_ok mk (fs 36 _ rfl)
  g_NoPart := atB_ok mk (fs 37 _ rfl)
  g_STEP_SORTS := atB_ok mk (fs 38 _ rfl)
  free := freeB_ok mk (fs 39 _ rfl)
  con_ALPHABET := conB_ok mk (fs 40 _ rfl)
  con_GAUGE_MODES := conB_ok mk (fs 41 _ rfl)
  con_MAIN_NAME := conB_ok mk (fs 42 _ rfl)
  con_MOST_BOXES := conB_ok mk (fs 43 _ rfl)
  con_MOST_GAUGE := conB_ok mk (fs 44 _ rfl)
  con_MOST_INSERTED := conB_ok mk (fs 45 _ rfl)
  con_MOST_PARTS := conB_ok mk (fs 46 _ rfl)
  con_MOST_RING := conB_ok mk (fs 47 _ rfl)
  con_MOST_SIGNS := conB_ok mk (fs 48 _ rfl)
  con_MOST_STEPS := conB_ok mk (fs 49 _ rfl)
  con_MOST_TIMES := conB_ok mk (fs 50 _ rfl)
  con_RING_MODES := conB_ok mk (fs 51 _ rfl)
  con_SIMPLE_KINDS := conB_ok mk (fs 52 _ rfl)
  ins := fun C hC => insB_ok (List.all_eq_true.mp (fs 53 _ rfl) C hC)
  at_own_kinds := fun C hC => noB_ok (List.all_eq_true.mp (fs 54 _ rfl) C hC)
  at_own_boxes := fun C hC => noB_ok (List.all_eq_true.mp (fs 55 _ rfl) C hC)
  at_own_acts := fun C hC => noB_ok (List.all_eq_true.mp (fs 56 _ rfl) C hC)
  is_int := (fs 57 _ rfl)
  is_bool := (fs 58 _ rfl)
  is_list_tuple := (fs 59 _ rfl)
  is_tuple := (fs 60 _ rfl)
  is_str := (fs 61 _ rfl)
  is_Boxes := (fs 62 _ rfl)
  is_Program := (fs 63 _ rfl)
  excs := (fs 64 _ rfl)
  fld_told := (fs 65 _ rfl)
  mk_Boxes := mkB_ok (fs 66 _ rfl)
  me_Boxes_listed := methB_ok (fs 67 _ rfl)
  me_Boxes_has_name := methB_ok (fs 68 _ rfl)
  me_Boxes_has_step := methB_ok (fs 69 _ rfl)
  me_Program_boxes := methB_ok (fs 70 _ rfl)
  me_Program_names := methB_ok (fs 71 _ rfl)
  me_Program_parts := methB_ok (fs 72 _ rfl)
  me_Program_acts_of := methB_ok (fs 73 _ rfl)
  eq_Boxes := (fs 74 _ rfl)
  eqf_Boxes := eqfB_ok (fs 75 _ rfl)
  ne_Boxes := neB_ok (fs 76 _ rfl)
  mk_Program := mkB_ok (fs 77 _ rfl)
  eq_Program := (fs 78 _ rfl)
  eqf_Program := eqfB_ok (fs 79 _ rfl)
  ne_Program := neB_ok (fs 80 _ rfl)
  st_Program_from_row := stB_ok (fs 81 _ rfl)
  box_BoxError := (fs 82 _ rfl)
  sup_NoRow := (fs 83 _ rfl)
  sup_NoBoxes := (fs 84 _ rfl)
  sup_NoProgram := (fs 85 _ rfl)
  sup_NoPart := (fs 86 _ rfl)
  ox_NoRow := oxB_ok (fs 87 _ rfl)
  ox_NoBoxes := oxB_ok (fs 88 _ rfl)
  ox_NoProgram := oxB_ok (fs 89 _ rfl)
  ox_NoPart := oxB_ok (fs 90 _ rfl)
  nol := nolB_ok (fs 91 _ rfl)
  tab_STEP_SORTS := h_STEP_SORTS
  fn_is_whole := fn 0 _ rfl
  fn_is_number := fn 1 _ rfl
  fn_is_line := fn 2 _ rfl
  fn_is_tuple_of := fn 3 _ rfl
  fn_is_one_of := fn 4 _ rfl
  fn_is_letter := fn 5 _ rfl
  fn_is_kind := fn 6 _ rfl
  fn_is_part := fn 7 _ rfl
  fn_has_step_form := fn 8 _ rfl
  fn_Boxes_init := fn 9 _ rfl
  fn_Boxes_listed := fn 10 _ rfl
  fn_Boxes_has_name := fn 11 _ rfl
  fn_Boxes_has_step := fn 12 _ rfl
  fn_check_boxes := fn 13 _ rfl
  fn_is_mixed_row := fn 14 _ rfl
  fn_is_act := fn 15 _ rfl
  fn_is_program_part := fn 16 _ rfl
  fn_Program_boxes := fn 17 _ rfl
  fn_Program_names := fn 18 _ rfl
  fn_Program_parts := fn 19 _ rfl
  fn_Program_acts_of := fn 20 _ rfl
  fn_check_program := fn 21 _ rfl
  fn_reached_parts := fn 22 _ rfl
  fn__law_pool := fn 23 _ rfl
  fn__law_take := fn 24 _ rfl
  fn__law_one := fn 25 _ rfl
  fn__law_kind_of := fn 26 _ rfl
  fn__law_step := fn 27 _ rfl
  fn__law_rounds := fn 28 _ rfl
  fn__law_length := fn 29 _ rfl
  fn__law_act := fn 30 _ rfl
  fn__law_parts := fn 31 _ rfl
  fn__law_wrong_part := fn 32 _ rfl
  fn_Boxes_eq := fn 33 _ rfl
  fn_Program_init := fn 34 _ rfl
  fn_Program_eq := fn 35 _ rfl
  fn_Program_from_row := fn 36 _ rfl
  fn__law_kind := fn 37 _ rfl
  fn__law_pairs := fn 38 _ rfl
  fn__law_made := fn 39 _ rfl
  fn__law_other := fn 40 _ rfl
  fn__law_refused := fn 41 _ rfl
  fn_law := fn 42 _ rfl
  fn_BoxError_init := fn 43 _ rfl
section
variable {w : World} {K : PySem.W.Frag} {mg : Str → Option Value} {base : Heap}
theorem exk_NoRow (T : Tx w K mg) : Exk P w K mg base 1 "NoRow" cNoRow "told" := exk_of (d := D_BoxError_init) (cc := 25) (D := cBoxError) T.fn_BoxError_init T.box_BoxError T.sup_NoRow T.ox_NoRow T.g_NoRow (T.free _ (by decide)) rfl rfl rfl rfl rfl rfl rfl rfl rfl (by decide +kernel) (by decide +kernel) rfl rfl rfl (fun _ => rfl) (by decide) (by decide) (by decide) (fun _ _ _ _ _ _ us hl => match us, hl with | [_, _], _ => rfl)
theorem exk_NoBoxes (T : Tx w K mg) : Exk P w K mg base 1 "NoBoxes" cNoBoxes "told" := exk_of (d := D_BoxError_init) (cc := 25) (D := cBoxError) T.fn_BoxError_init T.box_BoxError T.sup_NoBoxes T.ox_NoBoxes T.g_NoBoxes (T.free _ (by decide)) rfl rfl rfl rfl rfl rfl rfl rfl rfl (by decide +kernel) (by decide +kernel) rfl rfl rfl (fun _ => rfl) (by decide) (by decide) (by decide) (fun _ _ _ _ _ _ us hl => match us, hl with | [_, _], _ => rfl)
theorem exk_NoProgram (T : Tx w K mg) : Exk P w K mg base 1 "NoProgram" cNoProgram "told" := exk_of (d := D_BoxError_init) (cc := 25) (D := cBoxError) T.fn_BoxError_init T.box_BoxError T.sup_NoProgram T.ox_NoProgram T.g_NoProgram (T.free _ (by decide)) rfl rfl rfl rfl rfl rfl rfl rfl rfl (by decide +kernel) (by decide +kernel) rfl rfl rfl (fun _ => rfl) (by decide) (by decide) (by decide) (fun _ _ _ _ _ _ us hl => match us, hl with | [_, _], _ => rfl)
theorem exk_NoPart (T : Tx w K mg) : Exk P w K mg base 1 "NoPart" cNoPart "told" := exk_of (d := D_BoxError_init) (cc := 25) (D := cBoxError) T.fn_BoxError_init T.box_BoxError T.sup_NoPart T.ox_NoPart T.g_NoPart (T.free _ (by decide)) rfl rfl rfl rfl rfl rfl rfl rfl rfl (by decide +kernel) (by decide +kernel) rfl rfl rfl (fun _ => rfl) (by decide) (by decide) (by decide) (fun _ _ _ _ _ _ us hl => match us, hl with | [_, _], _ => rfl)
theorem sc_is_whole : FnScope ["value"] ["value"] (defScope st_is_whole) := ⟨rfl, rfl, rfl, by decide +kernel, rfl, by decide +kernel, by decide +kernel⟩
theorem okf_is_whole (T : Tx w K mg) : OkF P w K mg base 1 D_is_whole 1 d_is_whole := by
  refine .mk' (j := 0) T.fn_is_whole sc_is_whole (fun _ _ _ _ _ _ us hl => match us, hl with | [_], _ => rfl) fun cdv A outer s H E hr => ?_
  have nd := sc_is_whole.nd
  have hu := DL.Room.u100 hr
  exact sss_one (ss_ret (SE.so (se_and2 (se_isT (n := "int") T.ins T.is_int (gl_of (by kernel_rfl)) (T.free _ (by decide)) (SQ.se (sq_v 0 rfl (.inl (by kernel_rfl)) (by kernel_rfl))) (gl_of (by kernel_rfl)) (T.free _ (by decide)) rfl) (se_not (se_isT (n := "bool") T.ins T.is_bool (gl_of (by kernel_rfl)) (T.free _ (by decide)) (SQ.se (sq_v 0 rfl (.inl (by kernel_rfl)) (by kernel_rfl))) (gl_of (by kernel_rfl)) (T.free _ (by decide)) rfl)))))
theorem ok_is_whole (T : Tx w K mg) : Fn P w K mg base 1 "is_whole" 1 d_is_whole := (okf_is_whole T).fn' T.g_is_whole
theorem sc_is_number : FnScope ["value", "low", "high"] ["value", "low", "high"] (defScope st_is_number) := ⟨rfl, rfl, rfl, by decide +kernel, rfl, by decide +kernel, by decide +kernel⟩
theorem okf_is_number (T : Tx w K mg) : OkF P w K mg base 2 D_is_number 3 d_is_number := by
  refine .mk' (j := 1) T.fn_is_number sc_is_number (fun _ _ _ _ _ _ us hl => match us, hl with | [_, _, _], _ => rfl) fun cdv A outer s H E hr => ?_
  have nd := sc_is_number.nd
  have hu := DL.Room.u100 hr
  exact sss_one (ss_ret (SE.so (se_and2 (SO.se (so_call (ok_is_whole T) hr (by decide) (gl_of (by kernel_rfl)) (ars_c rfl (ar_v 0 rfl (.inl (by kernel_rfl)) (by kernel_rfl)) (ars_nil)))) (se_chain opx_le opx_le (SQ.se (sq_v 1 rfl (.inl (by kernel_rfl)) (by kernel_rfl))) (SQ.se (sq_v 0 rfl (.inl (by kernel_rfl)) (by kernel_rfl))) (SQ.se (sq_v 2 rfl (.inl (by kernel_rfl)) (by kernel_rfl))) rfl))))
theorem ok_is_number (T : Tx w K mg) : Fn P w K mg base 2 "is_number" 3 d_is_number := (okf_is_number T).fn' T.g_is_number
theorem sc_is_line : FnScope ["value"] ["value"] (defScope st_is_line) := ⟨rfl, rfl, rfl, by decide +kernel, rfl, by decide +kernel, by decide +kernel⟩
theorem okf_is_line (T : Tx w K mg) : OkF P w K mg base 1 D_is_line 1 d_is_line := by
  refine .mk' (j := 0) T.fn_is_line sc_is_line (fun _ _ _ _ _ _ us hl => match us, hl with | [_], _ => rfl) fun cdv A outer s H E hr => ?_
  have nd := sc_is_line.nd
  have hu := DL.Room.u100 hr
  exact sss_one (ss_ret (SE.so (se_isT2 (n := "list") (n2 := "tuple") T.ins T.is_list_tuple (gl_of (by kernel_rfl)) (T.free _ (by decide)) (SQ.se (sq_v 0 rfl (.inl (by kernel_rfl)) (by kernel_rfl))) (gl_of (by kernel_rfl)) (T.free _ (by decide)) rfl (gl_of (by kernel_rfl)) (T.free _ (by decide)) rfl)))
theorem ok_is_line (T : Tx w K mg) : Fn P w K mg base 1 "is_line" 1 d_is_line := (okf_is_line T).fn' T.g_is_line
theorem sc_is_tuple_of : FnScope ["value", "many"] ["value", "many"] (defScope st_is_tuple_of) := ⟨rfl, rfl, rfl, by decide +kernel, rfl, by decide +kernel, by decide +kernel⟩
theorem okf_is_tuple_of (T : Tx w K mg) : OkF P w K mg base 1 D_is_tuple_of 2 d_is_tuple_of := by
  refine .mk' (j := 0) T.fn_is_tuple_of sc_is_tuple_of (fun _ _ _ _ _ _ us hl => match us, hl with | [_, _], _ => rfl) fun cdv A outer s H E hr => ?_
  have nd := sc_is_tuple_of.nd
  have hu := DL.Room.u100 hr
  exact sss_one (ss_ret (SE.so (se_and2 (se_isT (n := "tuple") T.ins T.is_tuple (gl_of (by kernel_rfl)) (T.free _ (by decide)) (SQ.se (sq_v 0 rfl (.inl (by kernel_rfl)) (by kernel_rfl))) (gl_of (by kernel_rfl)) (T.free _ (by decide)) rfl) (se_cmp (opx_eq hu) (se_cb1 ct_len (gl_of (by kernel_rfl)) (T.free _ (by decide)) rfl (SQ.sr (sq_v 0 rfl (.inl (by kernel_rfl)) (by kernel_rfl)))) (SQ.se (sq_v 1 rfl (.inl (by kernel_rfl)) (by kernel_rfl))) rfl))))
theorem ok_is_tuple_of (T : Tx w K mg) : Fn P w K mg base 1 "is_tuple_of" 2 d_is_tuple_of := (okf_is_tuple_of T).fn' T.g_is_tuple_of
theorem sc_is_one_of : FnScope ["value", "words"] ["value", "words"] (defScope st_is_one_of) := ⟨rfl, rfl, rfl, by decide +kernel, rfl, by decide +kernel, by decide +kernel⟩
theorem okf_is_one_of (T : Tx w K mg) : OkF P w K mg base 1 D_is_one_of 2 d_is_one_of := by
  refine .mk' (j := 0) T.fn_is_one_of sc_is_one_of (fun _ _ _ _ _ _ us hl => match us, hl with | [_, _], _ => rfl) fun cdv A outer s H E hr => ?_
  have nd := sc_is_one_of.nd
  have hu := DL.Room.u100 hr
  exact sss_one (ss_ret (SE.so (se_and2 (se_isT (n := "str") T.ins T.is_str (gl_of (by kernel_rfl)) (T.free _ (by decide)) (SQ.se (sq_v 0 rfl (.inl (by kernel_rfl)) (by kernel_rfl))) (gl_of (by kernel_rfl)) (T.free _ (by decide)) rfl) (se_in (opt_in hu) (SQ.se (sq_v 0 rfl (.inl (by kernel_rfl)) (by kernel_rfl))) (SQ.sr (sq_v 1 rfl (.inl (by kernel_rfl)) (by kernel_rfl))) rfl))))
theorem ok_is_one_of (T : Tx w K mg) : Fn P w K mg base 1 "is_one_of" 2 d_is_one_of := (okf_is_one_of T).fn' T.g_is_one_of
theorem sc_is_letter : FnScope ["value", "sign"] ["value"] (defScope st_is_letter) := ⟨rfl, rfl, rfl, by decide +kernel, rfl, by decide +kernel, by decide +kernel⟩
theorem okf_is_letter (T : Tx w K mg) : OkF P w K mg base 1 D_is_letter 1 d_is_letter := by
  refine .mk' (j := 0) T.fn_is_letter sc_is_letter (fun _ _ _ _ _ _ us hl => match us, hl with | [_], _ => rfl) fun cdv A outer s H E hr => ?_
  have nd := sc_is_letter.nd
  have hu := DL.Room.u100 hr
  exact sss_one (ss_ret (SE.so (se_and3 (se_isT (n := "str") T.ins T.is_str (gl_of (by kernel_rfl)) (T.free _ (by decide)) (SQ.se (sq_v 0 rfl (.inl (by kernel_rfl)) (by kernel_rfl))) (gl_of (by kernel_rfl)) (T.free _ (by decide)) rfl) (se_chain opx_le opx_le (SQ.se (sq_int)) (se_cb1 ct_len (gl_of (by kernel_rfl)) (T.free _ (by decide)) rfl (SQ.sr (sq_v 0 rfl (.inl (by kernel_rfl)) (by kernel_rfl)))) (SQ.se (sq_k (by kernel_rfl) T.con_MOST_SIGNS (by kernel_rfl))) rfl) (se_cb1 (ct_all rfl) (gl_of (by kernel_rfl)) (T.free _ (by decide)) rfl (SE.sr (SO.se (so_comp (ow := [("sign", 1)]) rfl nd (si_seq (SQ.se (sq_v 0 rfl (.inl (by kernel_rfl)) (by kernel_rfl)))) (blkOk_of (by kernel_rfl)) (fun s H C cl fp => sw_name (i := 1) (by decide) nd rfl (.inl (by kernel_rfl)) (.inr (by kernel_rfl))) (fun s H C cl fp => sf_nil) (fun s H C cl fp => se_in (opt_in hu) (SQ.se (sq_v 1 rfl (.inl (by kernel_rfl)) (by kernel_rfl))) (SQ.sr (sq_k (by kernel_rfl) T.con_ALPHABET (by kernel_rfl))) rfl))))))))
theorem ok_is_letter (T : Tx w K mg) : Fn P w K mg base 1 "is_letter" 1 d_is_letter := (okf_is_letter T).fn' T.g_is_letter
theorem sc_is_kind : FnScope ["value"] ["value"] (defScope st_is_kind) := ⟨rfl, rfl, rfl, by decide +kernel, rfl, by decide +kernel, by decide +kernel⟩
theorem okf_is_kind (T : Tx w K mg) : OkF P w K mg base 3 D_is_kind 1 d_is_kind := by
  refine .mk' (j := 2) T.fn_is_kind sc_is_kind (fun _ _ _ _ _ _ us hl => match us, hl with | [_], _ => rfl) fun cdv A outer s H E hr => ?_
  have nd := sc_is_kind.nd
  have hu := DL.Room.u100 hr
  exact sss_cons (ss_if (st_or3 (st_not (st_val (se_isT (n := "tuple") T.ins T.is_tuple (gl_of (by kernel_rfl)) (T.free _ (by decide)) (SQ.se (sq_v 0 rfl (.inl (by kernel_rfl)) (by kernel_rfl))) (gl_of (by kernel_rfl)) (T.free _ (by decide)) rfl))) (st_in (opt_ni hu) (se_cb1 ct_len (gl_of (by kernel_rfl)) (T.free _ (by decide)) rfl (SQ.sr (sq_v 0 rfl (.inl (by kernel_rfl)) (by kernel_rfl)))) (SE.sr (se_tup (sa_c rfl (SQ.se (sq_int)) (sa_c rfl (SQ.se (sq_int)) (sa_nil))))) rfl) (st_not (st_val (se_isT (n := "str") T.ins T.is_str (gl_of (by kernel_rfl)) (T.free _ (by decide)) (SQ.se (sq_ix hu (sq_v 0 rfl (.inl (by kernel_rfl)) (by kernel_rfl)) (sq_int))) (gl_of (by kernel_rfl)) (T.free _ (by decide)) rfl)))) (sss_one (ss_ret (SE.so (SQ.se (sq_bl))))) (sss_nil)) (sss_cons (ss_if (st_cmp (opx_eq hu) (se_cb1 ct_len (gl_of (by kernel_rfl)) (T.free _ (by decide)) rfl (SQ.sr (sq_v 0 rfl (.inl (by kernel_rfl)) (by kernel_rfl)))) (SQ.se (sq_int)) rfl) (sss_one (ss_ret (SE.so (se_in (opt_in hu) (SQ.se (sq_ix hu (sq_v 0 rfl (.inl (by kernel_rfl)) (by kernel_rfl)) (sq_int))) (SQ.sr (sq_k (by kernel_rfl) T.con_SIMPLE_KINDS (by kernel_rfl))) rfl)))) (sss_nil)) (sss_cons (ss_if (st_cmp (opx_eq hu) (SQ.se (sq_ix hu (sq_v 0 rfl (.inl (by kernel_rfl)) (by kernel_rfl)) (sq_int))) (SQ.se (sq_str)) rfl) (sss_one (ss_ret (SE.so (se_and2 (SO.se (so_call (ok_is_number T) hr (by decide) (gl_of (by kernel_rfl)) (ars_c rfl (ar_val (SQ.se (sq_ix hu (sq_v 0 rfl (.inl (by kernel_rfl)) (by kernel_rfl)) (sq_int)))) (ars_c rfl (ar_val (SQ.se (sq_int))) (ars_c rfl (ar_val (SQ.se (sq_k (by kernel_rfl) T.con_MOST_RING (by kernel_rfl)))) (ars_nil)))))) (SO.se (so_call (ok_is_one_of T) hr (by decide) (gl_of (by kernel_rfl)) (ars_c rfl (ar_val (SQ.se (sq_ix hu (sq_v 0 rfl (.inl (by kernel_rfl)) (by kernel_rfl)) (sq_int)))) (ars_c rfl (ar_val (SQ.se (sq_k (by kernel_rfl) T.con_RING_MODES (by kernel_rfl)))) (ars_nil))))))))) (sss_nil)) (sss_one (ss_ret (SE.so (se_and3 (se_cmp (opx_eq hu) (SQ.se (sq_ix hu (sq_v 0 rfl (.inl (by kernel_rfl)) (by kernel_rfl)) (sq_int))) (SQ.se (sq_str)) rfl) (SO.se (so_call (ok_is_number T) hr (by decide) (gl_of (by kernel_rfl)) (ars_c rfl (ar_val (SQ.se (sq_ix hu (sq_v 0 rfl (.inl (by kernel_rfl)) (by kernel_rfl)) (sq_int)))) (ars_c rfl (ar_val (SQ.se (sq_int))) (ars_c rfl (ar_val (SQ.se (sq_k (by kernel_rfl) T.con_MOST_GAUGE (by kernel_rfl)))) (ars_nil)))))) (SO.se (so_call (ok_is_one_of T) hr (by decide) (gl_of (by kernel_rfl)) (ars_c rfl (ar_val (SQ.se (sq_ix hu (sq_v 0 rfl (.inl (by kernel_rfl)) (by kernel_rfl)) (sq_int)))) (ars_c rfl (ar_val (SQ.se (sq_k (by kernel_rfl) T.con_GAUGE_MODES (by kernel_rfl)))) (ars_nil)))))))))))
theorem ok_is_kind (T : Tx w K mg) : Fn P w K mg base 3 "is_kind" 1 d_is_kind := (okf_is_kind T).fn' T.g_is_kind
theorem sc_is_part : FnScope ["kind", "sort", "value"] ["kind", "sort", "value"] (defScope st_is_part) := ⟨rfl, rfl, rfl, by decide +kernel, rfl, by decide +kernel, by decide +kernel⟩
theorem okf_is_part (T : Tx w K mg) : OkF P w K mg base 3 D_is_part 3 d_is_part := by
  refine .mk' (j := 2) T.fn_is_part sc_is_part (fun _ _ _ _ _ _ us hl => match us, hl with | [_, _, _], _ => rfl) fun cdv A outer s H E hr => ?_
  have nd := sc_is_part.nd
  have hu := DL.Room.u100 hr
  exact sss_cons (ss_if (st_cmp (opx_eq hu) (SQ.se (sq_v 1 rfl (.inl (by kernel_rfl)) (by kernel_rfl))) (SQ.se (sq_str)) rfl) (sss_one (ss_ret (so_call (ok_is_letter T) hr (by decide) (gl_of (by kernel_rfl)) (ars_c rfl (ar_v 2 rfl (.inl (by kernel_rfl)) (by kernel_rfl)) (ars_nil))))) (sss_nil)) (sss_cons (ss_if (st_cmp (opx_eq hu) (SQ.se (sq_v 1 rfl (.inl (by kernel_rfl)) (by kernel_rfl))) (SQ.se (sq_str)) rfl) (sss_one (ss_ret (so_call (ok_is_number T) hr (by decide) (gl_of (by kernel_rfl)) (ars_c rfl (ar_v 2 rfl (.inl (by kernel_rfl)) (by kernel_rfl)) (ars_c rfl (ar_val (se_neg (SQ.se (sq_k (by kernel_rfl) T.con_MOST_INSERTED (by kernel_rfl))))) (ars_c rfl (ar_val (SQ.se (sq_k (by kernel_rfl) T.con_MOST_INSERTED (by kernel_rfl)))) (ars_nil))))))) (sss_nil)) (sss_one (ss_ret (so_call (ok_is_number T) hr (by decide) (gl_of (by kernel_rfl)) (ars_c rfl (ar_v 2 rfl (.inl (by kernel_rfl)) (by kernel_rfl)) (ars_c rfl (ar_val (SQ.se (sq_int))) (ars_c rfl (ar_val (SQ.se (sq_ix hu (sq_v 0 rfl (.inl (by kernel_rfl)) (by kernel_rfl)) (sq_int)))) (ars_nil))))))))
theorem ok_is_part (T : Tx w K mg) : Fn P w K mg base 3 "is_part" 3 d_is_part := (okf_is_part T).fn' T.g_is_part
theorem sc_has_step_form : FnScope ["kind", "value", "sorts", "sort", "part"] ["kind", "value"] (defScope st_has_step_form) := ⟨rfl, rfl, rfl, by decide +kernel, rfl, by decide +kernel, by decide +kernel⟩
theorem okf_has_step_form (T : Tx w K mg) : OkF P w K mg base 4 D_has_step_form 2 d_has_step_form := by
  refine .mk' (j := 3) T.fn_has_step_form sc_has_step_form (fun _ _ _ _ _ _ us hl => match us, hl with | [_, _], _ => rfl) fun cdv A outer s H E hr => ?_
  have nd := sc_has_step_form.nd
  have hu := DL.Room.u100 hr
  exact sss_cons (ss_if (st_or3 (st_not (st_val (se_isT (n := "tuple") T.ins T.is_tuple (gl_of (by kernel_rfl)) (T.free _ (by decide)) (SQ.se (sq_v 1 rfl (.inl (by kernel_rfl)) (by kernel_rfl))) (gl_of (by kernel_rfl)) (T.free _ (by decide)) rfl))) (st_cmp (opx_eq hu) (se_cb1 ct_len (gl_of (by kernel_rfl)) (T.free _ (by decide)) rfl (SQ.sr (sq_v 1 rfl (.inl (by kernel_rfl)) (by kernel_rfl)))) (SQ.se (sq_int)) rfl) (st_not (st_val (se_isT (n := "str") T.ins T.is_str (gl_of (by kernel_rfl)) (T.free _ (by decide)) (SQ.se (sq_ix hu (sq_v 1 rfl (.inl (by kernel_rfl)) (by kernel_rfl)) (sq_int))) (gl_of (by kernel_rfl)) (T.free _ (by decide)) rfl)))) (sss_one (ss_ret (SE.so (SQ.se (sq_bl))))) (sss_nil)) (sss_cons (ss_if (st_tabNi hu T.tab_STEP_SORTS (gl_of (by kernel_rfl)) T.g_STEP_SORTS (se_tup (sa_c rfl (SQ.se (sq_ix hu (sq_v 0 rfl (.inr (.inl (by kernel_rfl))) (by kernel_rfl)) (sq_int))) (sa_c rfl (SQ.se (sq_ix hu (sq_v 1 rfl (.inl (by kernel_rfl)) (by kernel_rfl)) (sq_int))) (sa_nil)))) rfl) (sss_one (ss_ret (SE.so (SQ.se (sq_bl))))) (sss_nil)) (sss_cons (ss_set (i := 2) (se_tabIx hu T.tab_STEP_SORTS (gl_of (by kernel_rfl)) T.g_STEP_SORTS (se_tup (sa_c rfl (SQ.se (sq_ix hu (sq_v 0 rfl (.inr (.inl (by kernel_rfl))) (by kernel_rfl)) (sq_int))) (sa_c rfl (SQ.se (sq_ix hu (sq_v 1 rfl (.inl (by kernel_rfl)) (by kernel_rfl)) (sq_int))) (sa_nil))))) nd rfl (.inl (by kernel_rfl))) (sss_one (ss_ret (SE.so (se_and2 (se_cmp (opx_eq hu) (se_cb1 ct_len (gl_of (by kernel_rfl)) (T.free _ (by decide)) rfl (SQ.sr (sq_v 1 rfl (.inl (by kernel_rfl)) (by kernel_rfl)))) (se_bin opx_add (se_cb1 ct_len (gl_of (by kernel_rfl)) (T.free _ (by decide)) rfl (SQ.sr (sq_v 2 rfl (.inl (by kernel_rfl)) (by kernel_rfl)))) (SQ.se (sq_int))) rfl) (se_cb1 (ct_all rfl) (gl_of (by kernel_rfl)) (T.free _ (by decide)) rfl (SE.sr (SO.se (so_comp (ow := [("sort", 3), ("part", 4)]) rfl nd (si_zip (gl_of (by kernel_rfl)) (T.free _ (by decide)) (SQ.se (sq_v 2 rfl (.inl (by kernel_rfl)) (by kernel_rfl))) (se_slL (SQ.se (sq_v 1 rfl (.inl (by kernel_rfl)) (by kernel_rfl))) (SQ.se (sq_int)))) (blkOk_of (by kernel_rfl)) (fun s H C cl fp => sw_tup rfl (sws_cons (sw_name (i := 3) (by decide) nd rfl (.inl (by kernel_rfl)) (.inr (by kernel_rfl))) (sws_cons (sw_name (i := 4) (by decide) nd rfl (.inl (by kernel_rfl)) (.inr (by kernel_rfl))) (sws_nil)))) (fun s H C cl fp => sf_nil) (fun s H C cl fp => SO.se (so_call (ok_is_part T) hr (by decide) (gl_of (by kernel_rfl)) (ars_c rfl (ar_v 0 rfl (.inr (.inl (by kernel_rfl))) (by kernel_rfl)) (ars_c rfl (ar_v 3 rfl (.inl (by kernel_rfl)) (by kernel_rfl)) (ars_c rfl (ar_v 4 rfl (.inl (by kernel_rfl)) (by kernel_rfl)) (ars_nil))))))))))))))))
theorem ok_has_step_form (T : Tx w K mg) : Fn P w K mg base 4 "has_step_form" 2 d_has_step_form := (okf_has_step_form T).fn' T.g_has_step_form
theorem sc_Boxes_init : FnScope ["self", "pairs", "index", "pair"] ["self", "pairs"] (defScope st_Boxes_init) := ⟨rfl, rfl, rfl, by decide +kernel, rfl, by decide +kernel, by decide +kernel⟩
theorem okf_Boxes_init (T : Tx w K mg) : OkF P w K mg base 4 D_Boxes_init 2 d_Boxes_init := by
  refine .mk' (j := 3) T.fn_Boxes_init sc_Boxes_init (fun _ _ _ _ _ _ us hl => match us, hl with | [_, _], _ => rfl) fun cdv A outer s H E hr => ?_
  have nd := sc_Boxes_init.nd
  have hu := DL.Room.u100 hr
  exact sss_cons (ss_if (st_or2 (st_not (st_val (SO.se (so_call (ok_is_line T) hr (by decide) (gl_of (by kernel_rfl)) (ars_c rfl (ar_v 1 rfl (.inl (by kernel_rfl)) (by kernel_rfl)) (ars_nil)))))) (st_not (st_chain opx_le opx_le (SQ.se (sq_int)) (se_cb1 ct_len (gl_of (by kernel_rfl)) (T.free _ (by decide)) rfl (SQ.sr (sq_v 1 rfl (.inl (by kernel_rfl)) (by kernel_rfl)))) (SQ.se (sq_k (by kernel_rfl) T.con_MOST_BOXES (by kernel_rfl))) rfl))) (sss_one (ss_raise rfl (exk_NoBoxes T) hr (by decide) (gl_of (by kernel_rfl)) (SQ.se (sq_non)))) (sss_nil)) (sss_cons (ss_fld (i := 0) (cl := [cBoxes, cProgram]) T.at_own_kinds (so_dic0) rfl (.inl (by kernel_rfl))) (sss_one (ss_forI rfl rfl rfl (si_enumA (gl_of (by kernel_rfl)) (T.free _ (by decide)) (SQ.se (sq_v 1 rfl (.inl (by kernel_rfl)) (by kernel_rfl)))) (sg_tup rfl (sgs_cons (sg_name (i := 2) nd rfl (.inl (by kernel_rfl))) (sgs_cons (sg_name (i := 3) nd rfl (.inl (by kernel_rfl))) (sgs_nil)))) (sss_cons (ss_if (st_or4 (st_not (st_val (SO.se (so_call (ok_is_tuple_of T) hr (by decide) (gl_of (by kernel_rfl)) (ars_c rfl (ar_v 3 rfl (.inl (by kernel_rfl)) (by kernel_rfl)) (ars_c rfl (ar_val (SQ.se (sq_int))) (ars_nil))))))) (st_not (st_val (SO.se (so_call (ok_is_letter T) hr (by decide) (gl_of (by kernel_rfl)) (ars_c rfl (ar_val (SQ.se (sq_ix hu (sq_v 3 rfl (.inl (by kernel_rfl)) (by kernel_rfl)) (sq_int)))) (ars_nil)))))) (st_in (opt_in hu) (SQ.se (sq_ix hu (sq_v 3 rfl (.inl (by kernel_rfl)) (by kernel_rfl)) (sq_int))) (SQ.sr (sq_attr (cl := [cBoxes, cProgram]) (f := "own_kinds") (sq_v 0 rfl (.inl (by kernel_rfl)) (by kernel_rfl)) T.at_own_kinds rfl)) rfl) (st_not (st_val (SO.se (so_call (ok_is_kind T) hr (by decide) (gl_of (by kernel_rfl)) (ars_c rfl (ar_val (SQ.se (sq_ix hu (sq_v 3 rfl (.inl (by kernel_rfl)) (by kernel_rfl)) (sq_int)))) (ars_nil))))))) (sss_one (ss_raise rfl (exk_NoBoxes T) hr (by decide) (gl_of (by kernel_rfl)) (SQ.se (sq_v 2 rfl (.inl (by kernel_rfl)) (by kernel_rfl))))) (sss_nil)) (sss_one (ss_putF (i := 0) (cl := [cBoxes, cProgram]) hu T.at_own_kinds (SQ.se (sq_ix hu (sq_v 3 rfl (.inl (by kernel_rfl)) (by kernel_rfl)) (sq_int))) rfl (.inl (by kernel_rfl)) (sq_ix hu (sq_v 3 rfl (.inl (by kernel_rfl)) (by kernel_rfl)) (sq_int))))))))
theorem mkr_Boxes (T : Tx w K mg) : Mkr P w K mg base 4 "Boxes" cBoxes 2 d_Boxes_init := (okf_Boxes_init T).mkr T.mk_Boxes T.g_Boxes
theorem sc_Boxes_listed : FnScope ["self", "name"] ["self"] (defScope st_Boxes_listed) := ⟨rfl, rfl, rfl, by decide +kernel, rfl, by decide +kernel, by decide +kernel⟩
theorem okf_Boxes_listed (T : Tx w K mg) : OkF P w K mg base 1 D_Boxes_listed 1 d_Boxes_listed := by
  refine .mk' (j := 0) T.fn_Boxes_listed sc_Boxes_listed (fun _ _ _ _ _ _ us hl => match us, hl with | [_], _ => rfl) fun cdv A outer s H E hr => ?_
  have nd := sc_Boxes_listed.nd
  have hu := DL.Room.u100 hr
  exact sss_one (ss_ret (so_compK (cl := [cBoxes, cProgram]) (i := 0) (ow := [("name", 1)]) rfl nd T.at_own_kinds rfl (.inr (.inl (by kernel_rfl))) (blkOk_of (by kernel_rfl)) (fun s H C cl fp => sw_name (i := 1) (by decide) nd rfl (.inl (by kernel_rfl)) (.inr (by kernel_rfl))) (fun s H C cl fp => sf_nil) (fun s H C cl fp => se_tup (sa_c rfl (SQ.se (sq_v 1 rfl (.inl (by kernel_rfl)) (by kernel_rfl))) (sa_c rfl (SQ.se (sq_ix hu (sq_attr (cl := [cBoxes, cProgram]) (f := "own_kinds") (sq_v 0 rfl (.inr (.inl (by kernel_rfl))) (by kernel_rfl)) T.at_own_kinds rfl) (sq_v 1 rfl (.inl (by kernel_rfl)) (by kernel_rfl)))) (sa_nil))))))
theorem mt_Boxes_listed (T : Tx w K mg) : Mt P w K mg base 1 cBoxes "listed" 1 d_Boxes_listed := (okf_Boxes_listed T).mt (T.ins _ (by decide)).1 T.me_Boxes_listed
theorem sc_Boxes_has_name : FnScope ["self", "value"] ["self", "value"] (defScope st_Boxes_has_name) := ⟨rfl, rfl, rfl, by decide +kernel, rfl, by decide +kernel, by decide +kernel⟩
theorem okf_Boxes_has_name (T : Tx w K mg) : OkF P w K mg base 1 D_Boxes_has_name 2 d_Boxes_has_name := by
  refine .mk' (j := 0) T.fn_Boxes_has_name sc_Boxes_has_name (fun _ _ _ _ _ _ us hl => match us, hl with | [_, _], _ => rfl) fun cdv A outer s H E hr => ?_
  have nd := sc_Boxes_has_name.nd
  have hu := DL.Room.u100 hr
  exact sss_one (ss_ret (SE.so (se_and2 (se_isT (n := "str") T.ins T.is_str (gl_of (by kernel_rfl)) (T.free _ (by decide)) (SQ.se (sq_v 1 rfl (.inl (by kernel_rfl)) (by kernel_rfl))) (gl_of (by kernel_rfl)) (T.free _ (by decide)) rfl) (se_in (opt_in hu) (SQ.se (sq_v 1 rfl (.inl (by kernel_rfl)) (by kernel_rfl))) (SQ.sr (sq_attr (cl := [cBoxes, cProgram]) (f := "own_kinds") (sq_v 0 rfl (.inl (by kernel_rfl)) (by kernel_rfl)) T.at_own_kinds rfl)) rfl))))
theorem mt_Boxes_has_name (T : Tx w K mg) : Mt P w K mg base 1 cBoxes "has_name" 2 d_Boxes_has_name := (okf_Boxes_has_name T).mt (T.ins _ (by decide)).1 T.me_Boxes_has_name
theorem sc_Boxes_has_step : FnScope ["self", "value"] ["self", "value"] (defScope st_Boxes_has_step) := ⟨rfl, rfl, rfl, by decide +kernel, rfl, by decide +kernel, by decide +kernel⟩
theorem okf_Boxes_has_step (T : Tx w K mg) : OkF P w K mg base 5 D_Boxes_has_step 2 d_Boxes_has_step := by
  refine .mk' (j := 4) T.fn_Boxes_has_step sc_Boxes_has_step (fun _ _ _ _ _ _ us hl => match us, hl with | [_, _], _ => rfl) fun cdv A outer s H E hr => ?_
  have nd := sc_Boxes_has_step.nd
  have hu := DL.Room.u100 hr
  exact sss_cons (ss_if (st_or2 (st_not (st_val (SO.se (so_call (ok_is_tuple_of T) hr (by decide) (gl_of (by kernel_rfl)) (ars_c rfl (ar_v 1 rfl (.inl (by kernel_rfl)) (by kernel_rfl)) (ars_c rfl (ar_val (SQ.se (sq_int))) (ars_nil))))))) (st_not (st_val (SO.se (so_meth (mt_Boxes_has_name T) hr (by decide) (ar_v 0 rfl (.inl (by kernel_rfl)) (by kernel_rfl)) (ars_c rfl (ar_val (SQ.se (sq_ix hu (sq_v 1 rfl (.inl (by kernel_rfl)) (by kernel_rfl)) (sq_int)))) (ars_nil))))))) (sss_one (ss_ret (SE.so (SQ.se (sq_bl))))) (sss_nil)) (sss_one (ss_ret (so_call (ok_has_step_form T) hr (by decide) (gl_of (by kernel_rfl)) (ars_c rfl (ar_val (SQ.se (sq_ix hu (sq_attr (cl := [cBoxes, cProgram]) (f := "own_kinds") (sq_v 0 rfl (.inl (by kernel_rfl)) (by kernel_rfl)) T.at_own_kinds rfl) (sq_ix hu (sq_v 1 rfl (.inl (by kernel_rfl)) (by kernel_rfl)) (sq_int))))) (ars_c rfl (ar_val (SQ.se (sq_ix hu (sq_v 1 rfl (.inl (by kernel_rfl)) (by kernel_rfl)) (sq_int)))) (ars_nil))))))
theorem mt_Boxes_has_step (T : Tx w K mg) : Mt P w K mg base 5 cBoxes "has_step" 2 d_Boxes_has_step := (okf_Boxes_has_step T).mt (T.ins _ (by decide)).1 T.me_Boxes_has_step
theorem sc_check_boxes : FnScope ["boxes"] ["boxes"] (defScope st_check_boxes) := ⟨rfl, rfl, rfl, by decide +kernel, rfl, by decide +kernel, by decide +kernel⟩
theorem okf_check_boxes (T : Tx w K mg) : OkF P w K mg base 3 D_check_boxes 1 d_check_boxes := by
  refine .mk' (j := 2) T.fn_check_boxes sc_check_boxes (fun _ _ _ _ _ _ us hl => match us, hl with | [_], _ => rfl) fun cdv A outer s H E hr => ?_
  have nd := sc_check_boxes.nd
  have hu := DL.Room.u100 hr
  exact sss_one (ss_if (st_not (st_val (se_isC T.ins T.is_Boxes (gl_of (by kernel_rfl)) (T.free _ (by decide)) (SQ.se (sq_v 0 rfl (.inl (by kernel_rfl)) (by kernel_rfl))) (gl_of (by kernel_rfl)) T.g_Boxes))) (sss_one (ss_raise rfl (exk_NoBoxes T) hr (by decide) (gl_of (by kernel_rfl)) (SQ.se (sq_v 0 rfl (.inl (by kernel_rfl)) (by kernel_rfl))))) (sss_nil))
theorem ok_check_boxes (T : Tx w K mg) : Fn P w K mg base 3 "check_boxes" 1 d_check_boxes := (okf_check_boxes T).fn' T.g_check_boxes
theorem sc_is_mixed_row : FnScope ["boxes", "value", "step"] ["boxes", "value"] (defScope st_is_mixed_row) := ⟨rfl, rfl, rfl, by decide +kernel, rfl, by decide +kernel, by decide +kernel⟩
theorem okf_is_mixed_row (T : Tx w K mg) : OkF P w K mg base 6 D_is_mixed_row 2 d_is_mixed_row := by
  refine .mk' (j := 5) T.fn_is_mixed_row sc_is_mixed_row (fun _ _ _ _ _ _ us hl => match us, hl with | [_, _], _ => rfl) fun cdv A outer s H E hr => ?_
  have nd := sc_is_mixed_row.nd
  have hu := DL.Room.u100 hr
  exact sss_one (ss_ret (SE.so (se_and3 (se_isT (n := "tuple") T.ins T.is_tuple (gl_of (by kernel_rfl)) (T.free _ (by decide)) (SQ.se (sq_v 1 rfl (.inl (by kernel_rfl)) (by kernel_rfl))) (gl_of (by kernel_rfl)) (T.free _ (by decide)) rfl) (se_cmp opx_le (se_cb1 ct_len (gl_of (by kernel_rfl)) (T.free _ (by decide)) rfl (SQ.sr (sq_v 1 rfl (.inl (by kernel_rfl)) (by kernel_rfl)))) (SQ.se (sq_k (by kernel_rfl) T.con_MOST_STEPS (by kernel_rfl))) rfl) (se_cb1 (ct_all rfl) (gl_of (by kernel_rfl)) (T.free _ (by decide)) rfl (SE.sr (SO.se (so_comp (ow := [("step", 2)]) rfl nd (si_seq (SQ.se (sq_v 1 rfl (.inl (by kernel_rfl)) (by kernel_rfl)))) (blkOk_of (by kernel_rfl)) (fun s H C cl fp => sw_name (i := 2) (by decide) nd rfl (.inl (by kernel_rfl)) (.inr (by kernel_rfl))) (fun s H C cl fp => sf_nil) (fun s H C cl fp => SO.se (so_meth (mt_Boxes_has_step T) hr (by decide) (ar_v 0 rfl (.inr (.inl (by kernel_rfl))) (by kernel_rfl)) (ars_c rfl (ar_v 2 rfl (.inl (by kernel_rfl)) (by kernel_rfl)) (ars_nil)))))))))))
theorem ok_is_mixed_row (T : Tx w K mg) : Fn P w K mg base 6 "is_mixed_row" 2 d_is_mixed_row := (okf_is_mixed_row T).fn' T.g_is_mixed_row
theorem sc_is_act : FnScope ["boxes", "names", "value"] ["boxes", "names", "value"] (defScope st_is_act) := ⟨rfl, rfl, rfl, by decide +kernel, rfl, by decide +kernel, by decide +kernel⟩
theorem okf_is_act (T : Tx w K mg) : OkF P w K mg base 6 D_is_act 3 d_is_act := by
  refine .mk' (j := 5) T.fn_is_act sc_is_act (fun _ _ _ _ _ _ us hl => match us, hl with | [_, _, _], _ => rfl) fun cdv A outer s H E hr => ?_
  have nd := sc_is_act.nd
  have hu := DL.Room.u100 hr
  exact sss_cons (ss_if (st_or3 (st_not (st_val (se_isT (n := "tuple") T.ins T.is_tuple (gl_of (by kernel_rfl)) (T.free _ (by decide)) (SQ.se (sq_v 2 rfl (.inl (by kernel_rfl)) (by kernel_rfl))) (gl_of (by kernel_rfl)) (T.free _ (by decide)) rfl))) (st_in (opt_ni hu) (se_cb1 ct_len (gl_of (by kernel_rfl)) (T.free _ (by decide)) rfl (SQ.sr (sq_v 2 rfl (.inl (by kernel_rfl)) (by kernel_rfl)))) (SE.sr (se_tup (sa_c rfl (SQ.se (sq_int)) (sa_c rfl (SQ.se (sq_int)) (sa_nil))))) rfl) (st_not (st_val (se_isT (n := "str") T.ins T.is_str (gl_of (by kernel_rfl)) (T.free _ (by decide)) (SQ.se (sq_ix hu (sq_v 2 rfl (.inl (by kernel_rfl)) (by kernel_rfl)) (sq_int))) (gl_of (by kernel_rfl)) (T.free _ (by decide)) rfl)))) (sss_one (ss_ret (SE.so (SQ.se (sq_bl))))) (sss_nil)) (sss_cons (ss_if (st_cmp (opx_eq hu) (SQ.se (sq_ix hu (sq_v 2 rfl (.inl (by kernel_rfl)) (by kernel_rfl)) (sq_int))) (SQ.se (sq_str)) rfl) (sss_one (ss_ret (SE.so (se_and2 (se_cmp (opx_eq hu) (se_cb1 ct_len (gl_of (by kernel_rfl)) (T.free _ (by decide)) rfl (SQ.sr (sq_v 2 rfl (.inl (by kernel_rfl)) (by kernel_rfl)))) (SQ.se (sq_int)) rfl) (SO.se (so_meth (mt_Boxes_has_step T) hr (by decide) (ar_v 0 rfl (.inl (by kernel_rfl)) (by kernel_rfl)) (ars_c rfl (ar_val (se_slL (SQ.se (sq_v 2 rfl (.inl (by kernel_rfl)) (by kernel_rfl))) (SQ.se (sq_int)))) (ars_nil)))))))) (sss_nil)) (sss_cons (ss_if (st_cmp (opx_eq hu) (SQ.se (sq_ix hu (sq_v 2 rfl (.inl (by kernel_rfl)) (by kernel_rfl)) (sq_int))) (SQ.se (sq_str)) rfl) (sss_one (ss_ret (SE.so (se_and2 (se_cmp (opx_eq hu) (se_cb1 ct_len (gl_of (by kernel_rfl)) (T.free _ (by decide)) rfl (SQ.sr (sq_v 2 rfl (.inl (by kernel_rfl)) (by kernel_rfl)))) (SQ.se (sq_int)) rfl) (SO.se (so_call (ok_is_one_of T) hr (by decide) (gl_of (by kernel_rfl)) (ars_c rfl (ar_val (SQ.se (sq_ix hu (sq_v 2 rfl (.inl (by kernel_rfl)) (by kernel_rfl)) (sq_int)))) (ars_c rfl (ar_v 1 rfl (.inl (by kernel_rfl)) (by kernel_rfl)) (ars_nil))))))))) (sss_nil)) (sss_cons (ss_if (st_or3 (st_cmp (opx_ne hu) (SQ.se (sq_ix hu (sq_v 2 rfl (.inl (by kernel_rfl)) (by kernel_rfl)) (sq_int))) (SQ.se (sq_str)) rfl) (st_cmp (opx_ne hu) (se_cb1 ct_len (gl_of (by kernel_rfl)) (T.free _ (by decide)) rfl (SQ.sr (sq_v 2 rfl (.inl (by kernel_rfl)) (by kernel_rfl)))) (SQ.se (sq_int)) rfl) (st_not (st_val (SO.se (so_call (ok_is_one_of T) hr (by decide) (gl_of (by kernel_rfl)) (ars_c rfl (ar_val (SQ.se (sq_ix hu (sq_v 2 rfl (.inl (by kernel_rfl)) (by kernel_rfl)) (sq_int)))) (ars_c rfl (ar_v 1 rfl (.inl (by kernel_rfl)) (by kernel_rfl)) (ars_nil)))))))) (sss_one (ss_ret (SE.so (SQ.se (sq_bl))))) (sss_nil)) (sss_one (ss_ret (so_call (ok_is_number T) hr (by decide) (gl_of (by kernel_rfl)) (ars_c rfl (ar_val (SQ.se (sq_ix hu (sq_v 2 rfl (.inl (by kernel_rfl)) (by kernel_rfl)) (sq_int)))) (ars_c rfl (ar_val (SQ.se (sq_int))) (ars_c rfl (ar_val (SQ.se (sq_k (by kernel_rfl) T.con_MOST_TIMES (by kernel_rfl)))) (ars_nil))))))))))
theorem ok_is_act (T : Tx w K mg) : Fn P w K mg base 6 "is_act" 3 d_is_act := (okf_is_act T).fn' T.g_is_act
theorem sc_is_program_part : FnScope ["boxes", "names", "value", "act"] ["boxes", "names", "value"] (defScope st_is_program_part) := ⟨rfl, rfl, rfl, by decide +kernel, rfl, by decide +kernel, by decide +kernel⟩
theorem okf_is_program_part (T : Tx w K mg) : OkF P w K mg base 7 D_is_program_part 3 d_is_program_part := by
  refine .mk' (j := 6) T.fn_is_program_part sc_is_program_part (fun _ _ _ _ _ _ us hl => match us, hl with | [_, _, _], _ => rfl) fun cdv A outer s H E hr => ?_
  have nd := sc_is_program_part.nd
  have hu := DL.Room.u100 hr
  exact sss_cons (ss_if (st_or3 (st_not (st_val (SO.se (so_call (ok_is_tuple_of T) hr (by decide) (gl_of (by kernel_rfl)) (ars_c rfl (ar_v 2 rfl (.inl (by kernel_rfl)) (by kernel_rfl)) (ars_c rfl (ar_val (SQ.se (sq_int))) (ars_nil))))))) (st_not (st_val (SO.se (so_call (ok_is_letter T) hr (by decide) (gl_of (by kernel_rfl)) (ars_c rfl (ar_val (SQ.se (sq_ix hu (sq_v 2 rfl (.inl (by kernel_rfl)) (by kernel_rfl)) (sq_int)))) (ars_nil)))))) (st_in (opt_in hu) (SQ.se (sq_ix hu (sq_v 2 rfl (.inl (by kernel_rfl)) (by kernel_rfl)) (sq_int))) (SQ.sr (sq_v 1 rfl (.inr (.inl (by kernel_rfl))) (by kernel_rfl))) rfl)) (sss_one (ss_ret (SE.so (SQ.se (sq_bl))))) (sss_nil)) (sss_cons (ss_if (st_or2 (st_not (st_val (se_isT (n := "tuple") T.ins T.is_tuple (gl_of (by kernel_rfl)) (T.free _ (by decide)) (SQ.se (sq_ix hu (sq_v 2 rfl (.inl (by kernel_rfl)) (by kernel_rfl)) (sq_int))) (gl_of (by kernel_rfl)) (T.free _ (by decide)) rfl))) (st_cmp opx_gt (se_cb1 ct_len (gl_of (by kernel_rfl)) (T.free _ (by decide)) rfl (SQ.sr (sq_ix hu (sq_v 2 rfl (.inl (by kernel_rfl)) (by kernel_rfl)) (sq_int)))) (SQ.se (sq_k (by kernel_rfl) T.con_MOST_STEPS (by kernel_rfl))) rfl)) (sss_one (ss_ret (SE.so (SQ.se (sq_bl))))) (sss_nil)) (sss_one (ss_ret (SE.so (se_cb1 (ct_all rfl) (gl_of (by kernel_rfl)) (T.free _ (by decide)) rfl (SE.sr (SO.se (so_comp (ow := [("act", 3)]) rfl nd (si_seq (SQ.se (sq_ix hu (sq_v 2 rfl (.inl (by kernel_rfl)) (by kernel_rfl)) (sq_int)))) (blkOk_of (by kernel_rfl)) (fun s H C cl fp => sw_name (i := 3) (by decide) nd rfl (.inl (by kernel_rfl)) (.inr (by kernel_rfl))) (fun s H C cl fp => sf_nil) (fun s H C cl fp => SO.se (so_call (ok_is_act T) hr (by decide) (gl_of (by kernel_rfl)) (ars_c rfl (ar_v 0 rfl (.inr (.inl (by kernel_rfl))) (by kernel_rfl)) (ars_c rfl (ar_v 1 rfl (.inr (.inl (by kernel_rfl))) (by kernel_rfl)) (ars_c rfl (ar_v 3 rfl (.inl (by kernel_rfl)) (by kernel_rfl)) (ars_nil))))))))))))))
theorem ok_is_program_part (T : Tx w K mg) : Fn P w K mg base 7 "is_program_part" 3 d_is_program_part := (okf_is_program_part T).fn' T.g_is_program_part
theorem sc_Program_boxes : FnScope ["self"] ["self"] (defScope st_Program_boxes) := ⟨rfl, rfl, rfl, by decide +kernel, rfl, by decide +kernel, by decide +kernel⟩
theorem okf_Program_boxes (T : Tx w K mg) : OkF P w K mg base 1 D_Program_boxes 1 d_Program_boxes := by
  refine .mk' (j := 0) T.fn_Program_boxes sc_Program_boxes (fun _ _ _ _ _ _ us hl => match us, hl with | [_], _ => rfl) fun cdv A outer s H E hr => ?_
  have nd := sc_Program_boxes.nd
  have hu := DL.Room.u100 hr
  exact sss_one (ss_ret (SE.so (SQ.se (sq_attr (cl := [cBoxes, cProgram]) (f := "own_boxes") (sq_v 0 rfl (.inl (by kernel_rfl)) (by kernel_rfl)) T.at_own_boxes rfl))))
theorem mt_Program_boxes (T : Tx w K mg) : Mt P w K mg base 1 cProgram "boxes" 1 d_Program_boxes := (okf_Program_boxes T).mt (T.ins _ (by decide)).1 T.me_Program_boxes
theorem sc_Program_names : FnScope ["self"] ["self"] (defScope st_Program_names) := ⟨rfl, rfl, rfl, by decide +kernel, rfl, by decide +kernel, by decide +kernel⟩
theorem okf_Program_names (T : Tx w K mg) : OkF P w K mg base 1 D_Program_names 1 d_Program_names := by
  refine .mk' (j := 0) T.fn_Program_names sc_Program_names (fun _ _ _ _ _ _ us hl => match us, hl with | [_], _ => rfl) fun cdv A outer s H E hr => ?_
  have nd := sc_Program_names.nd
  have hu := DL.Room.u100 hr
  exact sss_one (ss_ret (SE.so (se_cty1 (ct_list rfl) (gl_of (by kernel_rfl)) (T.free _ (by decide)) rfl (SQ.sr (sq_attr (cl := [cBoxes, cProgram]) (f := "own_acts") (sq_v 0 rfl (.inl (by kernel_rfl)) (by kernel_rfl)) T.at_own_acts rfl)))))
theorem mt_Program_names (T : Tx w K mg) : Mt P w K mg base 1 cProgram "names" 1 d_Program_names := (okf_Program_names T).mt (T.ins _ (by decide)).1 T.me_Program_names
theorem sc_Program_parts : FnScope ["self", "name"] ["self"] (defScope st_Program_parts) := ⟨rfl, rfl, rfl, by decide +kernel, rfl, by decide +kernel, by decide +kernel⟩
theorem okf_Program_parts (T : Tx w K mg) : OkF P w K mg base 1 D_Program_parts 1 d_Program_parts := by
  refine .mk' (j := 0) T.fn_Program_parts sc_Program_parts (fun _ _ _ _ _ _ us hl => match us, hl with | [_], _ => rfl) fun cdv A outer s H E hr => ?_
  have nd := sc_Program_parts.nd
  have hu := DL.Room.u100 hr
  exact sss_one (ss_ret (SE.so (se_cty1 ct_tuple (gl_of (by kernel_rfl)) (T.free _ (by decide)) rfl (SE.sr (SO.se (so_compK (cl := [cBoxes, cProgram]) (i := 0) (ow := [("name", 1)]) rfl nd T.at_own_acts rfl (.inr (.inl (by kernel_rfl))) (blkOk_of (by kernel_rfl)) (fun s H C cl fp => sw_name (i := 1) (by decide) nd rfl (.inl (by kernel_rfl)) (.inr (by kernel_rfl))) (fun s H C cl fp => sf_nil) (fun s H C cl fp => se_tup (sa_c rfl (SQ.se (sq_v 1 rfl (.inl (by kernel_rfl)) (by kernel_rfl))) (sa_c rfl (SQ.se (sq_ix hu (sq_attr (cl := [cBoxes, cProgram]) (f := "own_acts") (sq_v 0 rfl (.inr (.inl (by kernel_rfl))) (by kernel_rfl)) T.at_own_acts rfl) (sq_v 1 rfl (.inl (by kernel_rfl)) (by kernel_rfl)))) (sa_nil))))))))))
theorem mt_Program_parts (T : Tx w K mg) : Mt P w K mg base 1 cProgram "parts" 1 d_Program_parts := (okf_Program_parts T).mt (T.ins _ (by decide)).1 T.me_Program_parts
theorem sc_Program_acts_of : FnScope ["self", "name"] ["self", "name"] (defScope st_Program_acts_of) := ⟨rfl, rfl, rfl, by decide +kernel, rfl, by decide +kernel, by decide +kernel⟩
theorem okf_Program_acts_of (T : Tx w K mg) : OkF P w K mg base 3 D_Program_acts_of 2 d_Program_acts_of := by
  refine .mk' (j := 2) T.fn_Program_acts_of sc_Program_acts_of (fun _ _ _ _ _ _ us hl => match us, hl with | [_, _], _ => rfl) fun cdv A outer s H E hr => ?_
  have nd := sc_Program_acts_of.nd
  have hu := DL.Room.u100 hr
  exact sss_cons (ss_if (st_not (st_val (SO.se (so_call (ok_is_one_of T) hr (by decide) (gl_of (by kernel_rfl)) (ars_c rfl (ar_v 1 rfl (.inl (by kernel_rfl)) (by kernel_rfl)) (ars_c rfl (ar_val (SO.se (so_meth0 (mt_Program_names T) hr (by decide) (ar_v 0 rfl (.inl (by kernel_rfl)) (by kernel_rfl))))) (ars_nil))))))) (sss_one (ss_raise rfl (exk_NoPart T) hr (by decide) (gl_of (by kernel_rfl)) (SQ.se (sq_v 1 rfl (.inl (by kernel_rfl)) (by kernel_rfl))))) (sss_nil)) (sss_one (ss_ret (SE.so (SQ.se (sq_ix hu (sq_attr (cl := [cBoxes, cProgram]) (f := "own_acts") (sq_v 0 rfl (.inl (by kernel_rfl)) (by kernel_rfl)) T.at_own_acts rfl) (sq_v 1 rfl (.inl (by kernel_rfl)) (by kernel_rfl)))))))
theorem mt_Program_acts_of (T : Tx w K mg) : Mt P w K mg base 3 cProgram "acts_of" 2 d_Program_acts_of := (okf_Program_acts_of T).mt (T.ins _ (by decide)).1 T.me_Program_acts_of
theorem sc_check_program : FnScope ["program"] ["program"] (defScope st_check_program) := ⟨rfl, rfl, rfl, by decide +kernel, rfl, by decide +kernel, by decide +kernel⟩
theorem okf_check_program (T : Tx w K mg) : OkF P w K mg base 3 D_check_program 1 d_check_program := by
  refine .mk' (j := 2) T.fn_check_program sc_check_program (fun _ _ _ _ _ _ us hl => match us, hl with | [_], _ => rfl) fun cdv A outer s H E hr => ?_
  have nd := sc_check_program.nd
  have hu := DL.Room.u100 hr
  exact sss_one (ss_if (st_not (st_val (se_isC T.ins T.is_Program (gl_of (by kernel_rfl)) (T.free _ (by decide)) (SQ.se (sq_v 0 rfl (.inl (by kernel_rfl)) (by kernel_rfl))) (gl_of (by kernel_rfl)) T.g_Program))) (sss_one (ss_raise rfl (exk_NoProgram T) hr (by decide) (gl_of (by kernel_rfl)) (SQ.se (sq_v 0 rfl (.inl (by kernel_rfl)) (by kernel_rfl))))) (sss_nil))
theorem ok_check_program (T : Tx w K mg) : Fn P w K mg base 3 "check_program" 1 d_check_program := (okf_check_program T).fn' T.g_check_program
theorem sc_reached_parts : FnScope ["program", "known", "name", "act"] ["program"] (defScope st_reached_parts) := ⟨rfl, rfl, rfl, by decide +kernel, rfl, by decide +kernel, by decide +kernel⟩
theorem okf_reached_parts (T : Tx w K mg) : OkF P w K mg base 4 D_reached_parts 1 d_reached_parts := by
  refine .mk' (j := 3) T.fn_reached_parts sc_reached_parts (fun _ _ _ _ _ _ us hl => match us, hl with | [_], _ => rfl) fun cdv A outer s H E hr => ?_
  have nd := sc_reached_parts.nd
  have hu := DL.Room.u100 hr
  exact sss_cons (ss_expr (so_call (ok_check_program T) hr (by decide) (gl_of (by kernel_rfl)) (ars_c rfl (ar_v 0 rfl (.inl (by kernel_rfl)) (by kernel_rfl)) (ars_nil)))) (sss_bad)
theorem ok_reached_parts (T : Tx w K mg) : Fn P w K mg base 4 "reached_parts" 1 d_reached_parts := (okf_reached_parts T).fn' T.g_reached_parts
theorem sc__law_pool : FnScope ["_law_script", "_law_k", "_law_cell", "_law_big", "_law_mixed"] ["_law_script", "_law_k"] (defScope st__law_pool) := ⟨rfl, rfl, rfl, by decide +kernel, rfl, by decide +kernel, by decide +kernel⟩
theorem okf__law_pool (T : Tx w K mg) : OkF P w K mg base 1 D__law_pool 2 d__law_pool := by
  refine .mk' (j := 0) T.fn__law_pool sc__law_pool (fun _ _ _ _ _ _ us hl => match us, hl with | [_, _], _ => rfl) fun cdv A outer s H E hr => ?_
  have nd := sc__law_pool.nd
  have hu := DL.Room.u100 hr
  exact sss_cons (ss_set (i := 2) (SQ.se (sq_int)) nd rfl (.inl (by kernel_rfl))) (sss_cons (ss_if (st_cmp opx_lt (SQ.se (sq_v 1 rfl (.inl (by kernel_rfl)) (by kernel_rfl))) (se_cb1 ct_len (gl_of (by kernel_rfl)) (T.free _ (by decide)) rfl (SQ.sr (sq_v 0 rfl (.inl (by kernel_rfl)) (by kernel_rfl)))) rfl) (sss_one (ss_set (i := 2) (SQ.se (sq_ix hu (sq_v 0 rfl (.inl (by kernel_rfl)) (by kernel_rfl)) (sq_v 1 rfl (.inl (by kernel_rfl)) (by kernel_rfl)))) nd rfl (.inl (by kernel_rfl)))) (sss_nil)) (sss_cons (ss_set (i := 3) (se_cb (cx_max rfl) (gl_of (by kernel_rfl)) (T.free _ (by decide)) rfl (sa_c rfl (se_cty cx_int (gl_of (by kernel_rfl)) (T.free _ (by decide)) rfl (sa_c rfl (SQ.se (sq_v 2 rfl (.inl (by kernel_rfl)) (by kernel_rfl))) (sa_nil))) (sa_c rfl (se_cty cx_int (gl_of (by kernel_rfl)) (T.free _ (by decide)) rfl (sa_c rfl (se_bin opx_sub (se_neg (SQ.se (sq_int))) (SQ.se (sq_v 2 rfl (.inl (by kernel_rfl)) (by kernel_rfl)))) (sa_nil))) (sa_nil)))) nd rfl (.inl (by kernel_rfl))) (sss_cons (ss_set (i := 4) (se_bin opx_mod (se_cty cx_int (gl_of (by kernel_rfl)) (T.free _ (by decide)) rfl (sa_c rfl (se_bin opx_mul (se_bin opx_add (se_bin opx_add (se_bin opx_add (se_bin opx_mod (se_cty cx_int (gl_of (by kernel_rfl)) (T.free _ (by decide)) rfl (sa_c rfl (SQ.se (sq_v 3 rfl (.inl (by kernel_rfl)) (by kernel_rfl))) (sa_nil))) (SQ.se (sq_int))) (se_bin opx_mul (se_bin opx_mul (SQ.se (sq_int)) (SQ.se (sq_v 1 rfl (.inl (by kernel_rfl)) (by kernel_rfl)))) (SQ.se (sq_v 1 rfl (.inl (by kernel_rfl)) (by kernel_rfl))))) (se_bin opx_mul (SQ.se (sq_int)) (SQ.se (sq_v 1 rfl (.inl (by kernel_rfl)) (by kernel_rfl))))) (SQ.se (sq_int))) (SQ.se (sq_int))) (sa_nil))) (SQ.se (sq_int))) nd rfl (.inl (by kernel_rfl))) (sss_one (ss_ret (so_lst (sa_c rfl (se_bin opx_mul (SQ.se (sq_v 3 rfl (.inl (by kernel_rfl)) (by kernel_rfl))) (se_cty cx_int (gl_of (by kernel_rfl)) (T.free _ (by decide)) rfl (sa_c rfl (se_cmp opx_ge (SQ.se (sq_v 3 rfl (.inl (by kernel_rfl)) (by kernel_rfl))) (se_bin opx_pow (SQ.se (sq_int)) (SQ.se (sq_int))) rfl) (sa_nil)))) (sa_c rfl (SQ.se (sq_v 4 rfl (.inl (by kernel_rfl)) (by kernel_rfl))) (sa_nil)))))))))
theorem ok__law_pool (T : Tx w K mg) : Fn P w K mg base 1 "_law_pool" 2 d__law_pool := (okf__law_pool T).fn' T.g__law_pool
theorem sc__law_take : FnScope ["_law_source", "_law_top", "_law_drawn"] ["_law_source", "_law_top"] (defScope st__law_take) := ⟨rfl, rfl, rfl, by decide +kernel, rfl, by decide +kernel, by decide +kernel⟩
theorem okf__law_take (T : Tx w K mg) : OkF P w K mg base 1 D__law_take 2 d__law_take := by
  refine .mk' (j := 0) T.fn__law_take sc__law_take (fun _ _ _ _ _ _ us hl => match us, hl with | [_, _], _ => rfl) fun cdv A outer s H E hr => ?_
  have nd := sc__law_take.nd
  have hu := DL.Room.u100 hr
  exact sss_cons (ss_if (st_cmp opx_gt (SQ.se (sq_ix hu (sq_v 0 rfl (.inl (by kernel_rfl)) (by kernel_rfl)) (sq_int))) (SQ.se (sq_int)) rfl) (sss_cons (ss_set (i := 2) (se_bin opx_mod (se_cty cx_int (gl_of (by kernel_rfl)) (T.free _ (by decide)) rfl (sa_c rfl (SQ.se (sq_ix hu (sq_v 0 rfl (.inl (by kernel_rfl)) (by kernel_rfl)) (sq_int))) (sa_nil))) (SQ.se (sq_v 1 rfl (.inl (by kernel_rfl)) (by kernel_rfl)))) nd rfl (.inl (by kernel_rfl))) (sss_cons (ss_setIx (i := 0) (se_bin opx_div (SQ.se (sq_ix hu (sq_v 0 rfl (.inl (by kernel_rfl)) (by kernel_rfl)) (sq_int))) (SQ.se (sq_v 1 rfl (.inl (by kernel_rfl)) (by kernel_rfl)))) rfl (.inl (by kernel_rfl)) (sq_int)) (sss_one (ss_rv 2 rfl (.inl (by kernel_rfl)) (by kernel_rfl))))) (sss_nil)) (sss_cons (ss_setIx (i := 0) (se_bin opx_mod (se_cty cx_int (gl_of (by kernel_rfl)) (T.free _ (by decide)) rfl (sa_c rfl (se_bin opx_add (se_bin opx_mul (SQ.se (sq_ix hu (sq_v 0 rfl (.inl (by kernel_rfl)) (by kernel_rfl)) (sq_int))) (SQ.se (sq_int))) (SQ.se (sq_int))) (sa_nil))) (SQ.se (sq_int))) rfl (.inl (by kernel_rfl)) (sq_int)) (sss_one (ss_ret (SE.so (se_bin opx_mod (se_cty cx_int (gl_of (by kernel_rfl)) (T.free _ (by decide)) rfl (sa_c rfl (se_bin opx_div (se_bin opx_mod (se_cty cx_int (gl_of (by kernel_rfl)) (T.free _ (by decide)) rfl (sa_c rfl (se_bin opx_mul (SQ.se (sq_ix hu (sq_v 0 rfl (.inl (by kernel_rfl)) (by kernel_rfl)) (sq_int))) (SQ.se (sq_ix hu (sq_v 0 rfl (.inl (by kernel_rfl)) (by kernel_rfl)) (sq_int)))) (sa_nil))) (SQ.se (sq_int))) (SQ.se (sq_int))) (sa_nil))) (SQ.se (sq_v 1 rfl (.inl (by kernel_rfl)) (by kernel_rfl))))))))
theorem ok__law_take (T : Tx w K mg) : Fn P w K mg base 1 "_law_take" 2 d__law_take := (okf__law_take T).fn' T.g__law_take
theorem sc__law_one : FnScope ["_law_source", "_law_things"] ["_law_source", "_law_things"] (defScope st__law_one) := ⟨rfl, rfl, rfl, by decide +kernel, rfl, by decide +kernel, by decide +kernel⟩
theorem okf__law_one (T : Tx w K mg) : OkF P w K mg base 2 D__law_one 2 d__law_one := by
  refine .mk' (j := 1) T.fn__law_one sc__law_one (fun _ _ _ _ _ _ us hl => match us, hl with | [_, _], _ => rfl) fun cdv A outer s H E hr => ?_
  have nd := sc__law_one.nd
  have hu := DL.Room.u100 hr
  exact sss_one (ss_ret (SE.so (se_ix hu (SQ.se (sq_v 1 rfl (.inl (by kernel_rfl)) (by kernel_rfl))) (SO.se (so_call (ok__law_take T) hr (by decide) (gl_of (by kernel_rfl)) (ars_c rfl (ar_v 0 rfl (.inl (by kernel_rfl)) (by kernel_rfl)) (ars_c rfl (ar_val (se_cb1 ct_len (gl_of (by kernel_rfl)) (T.free _ (by decide)) rfl (SQ.sr (sq_v 1 rfl (.inl (by kernel_rfl)) (by kernel_rfl))))) (ars_nil))))))))
theorem ok__law_one (T : Tx w K mg) : Fn P w K mg base 2 "_law_one" 2 d__law_one := (okf__law_one T).fn' T.g__law_one
theorem sc__law_kind_of : FnScope ["_law_source", "_law_sort"] ["_law_source", "_law_sort"] (defScope st__law_kind_of) := ⟨rfl, rfl, rfl, by decide +kernel, rfl, by decide +kernel, by decide +kernel⟩
theorem okf__law_kind_of (T : Tx w K mg) : OkF P w K mg base 3 D__law_kind_of 2 d__law_kind_of := by
  refine .mk' (j := 2) T.fn__law_kind_of sc__law_kind_of (fun _ _ _ _ _ _ us hl => match us, hl with | [_, _], _ => rfl) fun cdv A outer s H E hr => ?_
  have nd := sc__law_kind_of.nd
  have hu := DL.Room.u100 hr
  exact sss_cons (ss_if (st_cmp (opx_eq hu) (SQ.se (sq_v 1 rfl (.inl (by kernel_rfl)) (by kernel_rfl))) (SQ.se (sq_str)) rfl) (sss_one (ss_ret (SE.so (se_tup (sa_c rfl (SQ.se (sq_str)) (sa_c rfl (SO.se (so_call (ok__law_one T) hr (by decide) (gl_of (by kernel_rfl)) (ars_c rfl (ar_v 0 rfl (.inl (by kernel_rfl)) (by kernel_rfl)) (ars_c rfl (ar_val (se_lst (sa_c rfl (SQ.se (sq_int)) (sa_c rfl (SQ.se (sq_int)) (sa_c rfl (SQ.se (sq_int)) (sa_c rfl (SQ.se (sq_int)) (sa_nil))))))) (ars_nil))))) (sa_c rfl (SO.se (so_call (ok__law_one T) hr (by decide) (gl_of (by kernel_rfl)) (ars_c rfl (ar_v 0 rfl (.inl (by kernel_rfl)) (by kernel_rfl)) (ars_c rfl (ar_val (se_lst (sa_c rfl (SQ.se (sq_str)) (sa_c rfl (SQ.se (sq_str)) (sa_c rfl (SQ.se (sq_str)) (sa_nil)))))) (ars_nil))))) (sa_nil)))))))) (sss_nil)) (sss_cons (ss_if (st_cmp (opx_eq hu) (SQ.se (sq_v 1 rfl (.inl (by kernel_rfl)) (by kernel_rfl))) (SQ.se (sq_str)) rfl) (sss_one (ss_ret (SE.so (se_tup (sa_c rfl (SQ.se (sq_str)) (sa_c rfl (SO.se (so_call (ok__law_one T) hr (by decide) (gl_of (by kernel_rfl)) (ars_c rfl (ar_v 0 rfl (.inl (by kernel_rfl)) (by kernel_rfl)) (ars_c rfl (ar_val (se_lst (sa_c rfl (SQ.se (sq_int)) (sa_c rfl (SQ.se (sq_int)) (sa_c rfl (SQ.se (sq_int)) (sa_c rfl (SQ.se (sq_int)) (sa_nil))))))) (ars_nil))))) (sa_c rfl (SO.se (so_call (ok__law_one T) hr (by decide) (gl_of (by kernel_rfl)) (ars_c rfl (ar_v 0 rfl (.inl (by kernel_rfl)) (by kernel_rfl)) (ars_c rfl (ar_val (se_lst (sa_c rfl (SQ.se (sq_str)) (sa_c rfl (SQ.se (sq_str)) (sa_nil))))) (ars_nil))))) (sa_nil)))))))) (sss_nil)) (sss_one (ss_ret (SE.so (se_tup (sa_c rfl (SQ.se (sq_v 1 rfl (.inl (by kernel_rfl)) (by kernel_rfl))) (sa_nil)))))))
theorem ok__law_kind_of (T : Tx w K mg) : Fn P w K mg base 3 "_law_kind_of" 2 d__law_kind_of := (okf__law_kind_of T).fn' T.g__law_kind_of
theorem sc__law_step : FnScope ["_law_source", "_law_kind_here", "_law_letters", "_law_x", "_law_way", "_law_name"] ["_law_source", "_law_kind_here", "_law_letters"] (defScope st__law_step) := ⟨rfl, rfl, rfl, by decide +kernel, rfl, by decide +kernel, by decide +kernel⟩
theorem okf__law_step (T : Tx w K mg) : OkF P w K mg base 3 D__law_step 3 d__law_step := by
  refine .mk' (j := 2) T.fn__law_step sc__law_step (fun _ _ _ _ _ _ us hl => match us, hl with | [_, _, _], _ => rfl) fun cdv A outer s H E hr => ?_
  have nd := sc__law_step.nd
  have hu := DL.Room.u100 hr
  exact sss_cons (ss_par (i := 3) (j := 4) rfl nd rfl rfl (by decide) (by kernel_rfl) (by kernel_rfl) (sa_c rfl (SO.se (so_call (ok__law_one T) hr (by decide) (gl_of (by kernel_rfl)) (ars_c rfl (ar_v 0 rfl (.inl (by kernel_rfl)) (by kernel_rfl)) (ars_c rfl (ar_v 2 rfl (.inl (by kernel_rfl)) (by kernel_rfl)) (ars_nil))))) (sa_c rfl (SO.se (so_call (ok__law_take T) hr (by decide) (gl_of (by kernel_rfl)) (ars_c rfl (ar_v 0 rfl (.inl (by kernel_rfl)) (by kernel_rfl)) (ars_c rfl (ar_val (SQ.se (sq_int))) (ars_nil))))) (sa_nil)))) (sss_cons (ss_if (st_cmp (opx_eq hu) (SQ.se (sq_ix hu (sq_v 1 rfl (.inl (by kernel_rfl)) (by kernel_rfl)) (sq_int))) (SQ.se (sq_str)) rfl) (sss_one (ss_ret (SE.so (se_tup (sa_c rfl (se_if (st_cmp (opx_eq hu) (SQ.se (sq_v 4 rfl (.inl (by kernel_rfl)) (by kernel_rfl))) (SQ.se (sq_int)) rfl) (SQ.se (sq_str)) (SQ.se (sq_str))) (sa_c rfl (SQ.se (sq_v 3 rfl (.inl (by kernel_rfl)) (by kernel_rfl))) (sa_nil))))))) (sss_nil)) (sss_cons (ss_if (st_cmp (opx_eq hu) (SQ.se (sq_ix hu (sq_v 1 rfl (.inl (by kernel_rfl)) (by kernel_rfl)) (sq_int))) (SQ.se (sq_str)) rfl) (sss_one (ss_ret (SE.so (se_tup (sa_c rfl (se_if (st_cmp (opx_eq hu) (SQ.se (sq_v 4 rfl (.inl (by kernel_rfl)) (by kernel_rfl))) (SQ.se (sq_int)) rfl) (SQ.se (sq_str)) (SQ.se (sq_str))) (sa_c rfl (SQ.se (sq_v 3 rfl (.inl (by kernel_rfl)) (by kernel_rfl))) (sa_nil))))))) (sss_nil)) (sss_cons (ss_if (st_cmp (opx_eq hu) (SQ.se (sq_ix hu (sq_v 1 rfl (.inl (by kernel_rfl)) (by kernel_rfl)) (sq_int))) (SQ.se (sq_str)) rfl) (sss_one (ss_ret (SE.so (se_if (st_cmp (opx_eq hu) (SQ.se (sq_v 4 rfl (.inl (by kernel_rfl)) (by kernel_rfl))) (SQ.se (sq_int)) rfl) (se_tup (sa_c rfl (SQ.se (sq_str)) (sa_c rfl (SQ.se (sq_v 3 rfl (.inl (by kernel_rfl)) (by kernel_rfl))) (sa_nil)))) (se_tup (sa_c rfl (SQ.se (sq_str)) (sa_nil))))))) (sss_nil)) (sss_cons (ss_if (st_cmp (opx_eq hu) (SQ.se (sq_ix hu (sq_v 1 rfl (.inl (by kernel_rfl)) (by kernel_rfl)) (sq_int))) (SQ.se (sq_str)) rfl) (sss_one (ss_ret (so_call (ok__law_one T) hr (by decide) (gl_of (by kernel_rfl)) (ars_c rfl (ar_v 0 rfl (.inl (by kernel_rfl)) (by kernel_rfl)) (ars_c rfl (ar_val (se_lst (sa_c rfl (se_tup (sa_c rfl (SQ.se (sq_str)) (sa_nil))) (sa_c rfl (se_tup (sa_c rfl (SQ.se (sq_str)) (sa_nil))) (sa_c rfl (se_tup (sa_c rfl (SQ.se (sq_str)) (sa_c rfl (SQ.se (sq_v 3 rfl (.inl (by kernel_rfl)) (by kernel_rfl))) (sa_nil)))) (sa_c rfl (se_tup (sa_c rfl (SQ.se (sq_str)) (sa_c rfl (SQ.se (sq_v 3 rfl (.inl (by kernel_rfl)) (by kernel_rfl))) (sa_nil)))) (sa_c rfl (se_tup (sa_c rfl (SQ.se (sq_str)) (sa_nil))) (sa_nil)))))))) (ars_nil)))))) (sss_nil)) (sss_cons (ss_if (st_cmp (opx_eq hu) (SQ.se (sq_ix hu (sq_v 1 rfl (.inl (by kernel_rfl)) (by kernel_rfl)) (sq_int))) (SQ.se (sq_str)) rfl) (sss_one (ss_ret (SE.so (se_if (st_cmp (opx_eq hu) (SQ.se (sq_v 4 rfl (.inl (by kernel_rfl)) (by kernel_rfl))) (SQ.se (sq_int)) rfl) (se_tup (sa_c rfl (SQ.se (sq_str)) (sa_c rfl (SO.se (so_call (ok__law_one T) hr (by decide) (gl_of (by kernel_rfl)) (ars_c rfl (ar_v 0 rfl (.inl (by kernel_rfl)) (by kernel_rfl)) (ars_c rfl (ar_val (se_lst (sa_c rfl (se_neg (SQ.se (sq_int))) (sa_c rfl (se_neg (SQ.se (sq_int))) (sa_c rfl (SQ.se (sq_int)) (sa_c rfl (SQ.se (sq_int)) (sa_c rfl (SQ.se (sq_int)) (sa_c rfl (SQ.se (sq_int)) (sa_c rfl (SQ.se (sq_int)) (sa_nil)))))))))) (ars_nil))))) (sa_nil)))) (se_tup (sa_c rfl (SQ.se (sq_str)) (sa_nil))))))) (sss_nil)) (sss_cons (ss_if (st_cmp (opx_eq hu) (SQ.se (sq_ix hu (sq_v 1 rfl (.inl (by kernel_rfl)) (by kernel_rfl)) (sq_int))) (SQ.se (sq_str)) rfl) (sss_one (ss_ret (SE.so (se_tup (sa_c rfl (se_if (st_cmp (opx_eq hu) (SQ.se (sq_v 4 rfl (.inl (by kernel_rfl)) (by kernel_rfl))) (SQ.se (sq_int)) rfl) (SQ.se (sq_str)) (SQ.se (sq_str))) (sa_c rfl (se_bin opx_add (SQ.se (sq_int)) (SO.se (so_call (ok__law_take T) hr (by decide) (gl_of (by kernel_rfl)) (ars_c rfl (ar_v 0 rfl (.inl (by kernel_rfl)) (by kernel_rfl)) (ars_c rfl (ar_val (se_cb (cx_min rfl) (gl_of (by kernel_rfl)) (T.free _ (by decide)) rfl (sa_c rfl (se_cty cx_int (gl_of (by kernel_rfl)) (T.free _ (by decide)) rfl (sa_c rfl (SQ.se (sq_ix hu (sq_v 1 rfl (.inl (by kernel_rfl)) (by kernel_rfl)) (sq_int))) (sa_nil))) (sa_c rfl (SQ.se (sq_int)) (sa_nil))))) (ars_nil)))))) (sa_nil))))))) (sss_nil)) (sss_cons (ss_seto (i := 5) (so_call (ok__law_one T) hr (by decide) (gl_of (by kernel_rfl)) (ars_c rfl (ar_v 0 rfl (.inl (by kernel_rfl)) (by kernel_rfl)) (ars_c rfl (ar_val (se_lst (sa_c rfl (SQ.se (sq_str)) (sa_c rfl (SQ.se (sq_str)) (sa_c rfl (SQ.se (sq_str)) (sa_nil)))))) (ars_nil)))) nd rfl (.inl (by kernel_rfl))) (sss_one (ss_ret (so_call (ok__law_one T) hr (by decide) (gl_of (by kernel_rfl)) (ars_c rfl (ar_v 0 rfl (.inl (by kernel_rfl)) (by kernel_rfl)) (ars_c rfl (ar_val (se_lst (sa_c rfl (se_tup (sa_c rfl (SQ.se (sq_str)) (sa_c rfl (SQ.se (sq_v 5 rfl (.inl (by kernel_rfl)) (by kernel_rfl))) (sa_c rfl (SQ.se (sq_v 3 rfl (.inl (by kernel_rfl)) (by kernel_rfl))) (sa_nil))))) (sa_c rfl (se_tup (sa_c rfl (SQ.se (sq_str)) (sa_c rfl (SQ.se (sq_v 5 rfl (.inl (by kernel_rfl)) (by kernel_rfl))) (sa_nil)))) (sa_c rfl (se_tup (sa_c rfl (SQ.se (sq_str)) (sa_c rfl (SQ.se (sq_v 5 rfl (.inl (by kernel_rfl)) (by kernel_rfl))) (sa_c rfl (SQ.se (sq_v 3 rfl (.inl (by kernel_rfl)) (by kernel_rfl))) (sa_nil))))) (sa_c rfl (se_tup (sa_c rfl (SQ.se (sq_str)) (sa_c rfl (SQ.se (sq_v 5 rfl (.inl (by kernel_rfl)) (by kernel_rfl))) (sa_nil)))) (sa_nil))))))) (ars_nil)))))))))))))
theorem ok__law_step (T : Tx w K mg) : Fn P w K mg base 3 "_law_step" 3 d__law_step := (okf__law_step T).fn' T.g__law_step
theorem sc__law_rounds : FnScope ["_law_script", "_law_most"] ["_law_script", "_law_most"] (defScope st__law_rounds) := ⟨rfl, rfl, rfl, by decide +kernel, rfl, by decide +kernel, by decide +kernel⟩
theorem okf__law_rounds (T : Tx w K mg) : OkF P w K mg base 1 D__law_rounds 2 d__law_rounds := by
  refine .mk' (j := 0) T.fn__law_rounds sc__law_rounds (fun _ _ _ _ _ _ us hl => match us, hl with | [_, _], _ => rfl) fun cdv A outer s H E hr => ?_
  have nd := sc__law_rounds.nd
  have hu := DL.Room.u100 hr
  exact sss_one (ss_ret (SE.so (se_listRg rfl (gl_of (by kernel_rfl)) (T.free _ (by decide)) (gl_of (by kernel_rfl)) (T.free _ (by decide)) (se_cb (cx_max rfl) (gl_of (by kernel_rfl)) (T.free _ (by decide)) rfl (sa_c rfl (SQ.se (sq_int)) (sa_c rfl (se_cb (cx_min rfl) (gl_of (by kernel_rfl)) (T.free _ (by decide)) rfl (sa_c rfl (se_cb1 ct_len (gl_of (by kernel_rfl)) (T.free _ (by decide)) rfl (SQ.sr (sq_v 0 rfl (.inl (by kernel_rfl)) (by kernel_rfl)))) (sa_c rfl (SQ.se (sq_v 1 rfl (.inl (by kernel_rfl)) (by kernel_rfl))) (sa_nil)))) (sa_nil)))))))
theorem ok__law_rounds (T : Tx w K mg) : Fn P w K mg base 1 "_law_rounds" 2 d__law_rounds := (okf__law_rounds T).fn' T.g__law_rounds
theorem sc__law_length : FnScope ["_law_parts_here", "_law_name", "_law_total", "_law_act_here"] ["_law_parts_here", "_law_name"] (defScope st__law_length) := ⟨rfl, rfl, rfl, by decide +kernel, rfl, by decide +kernel, by decide +kernel⟩
theorem okf__law_length (T : Tx w K mg) (n : Nat) : OkF P w K mg base (1 + n) D__law_length 2 (d__law_length n) := by
  induction n with
  | zero => exact .zero T.fn__law_length sc__law_length (fun _ _ _ _ _ _ us hl => match us, hl with | [_, _], _ => rfl)
  | succ n ih =>
    have F : Fn P w K mg base (1 + n) "_law_length" 2 (d__law_length n) := ih.fn' T.g__law_length
    refine .mk' (j := 1 + n) T.fn__law_length sc__law_length (fun _ _ _ _ _ _ us hl => match us, hl with | [_, _], _ => rfl) (hk := rfl) fun cdv A outer s H E hr => ?_
    have nd := sc__law_length.nd
    have hu := DL.Room.u100 hr
    exact sss_cons (ss_set (i := 2) (SQ.se (sq_int)) nd rfl (.inl (by kernel_rfl))) (sss_cons (ss_for rfl rfl rfl (se_ix hu (se_cty1 (ct_dict rfl) (gl_of (by kernel_rfl)) (T.free _ (by decide)) rfl (SQ.sr (sq_v 0 rfl (.inl (by kernel_rfl)) (by kernel_rfl)))) (SQ.se (sq_v 1 rfl (.inl (by kernel_rfl)) (by kernel_rfl)))) (sg_name (i := 3) nd rfl (.inl (by kernel_rfl))) (sss_one (ss_if (st_cmp (opx_eq hu) (SQ.se (sq_ix hu (sq_v 3 rfl (.inl (by kernel_rfl)) (by kernel_rfl)) (sq_int))) (SQ.se (sq_str)) rfl) (sss_one (ss_set (i := 2) (se_bin opx_add (SQ.se (sq_v 2 rfl (.inl (by kernel_rfl)) (by kernel_rfl))) (SQ.se (sq_int))) nd rfl (.inl (by kernel_rfl)))) (sss_one (ss_if (st_cmp (opx_eq hu) (SQ.se (sq_ix hu (sq_v 3 rfl (.inl (by kernel_rfl)) (by kernel_rfl)) (sq_int))) (SQ.se (sq_str)) rfl) (sss_one (ss_set (i := 2) (se_bin opx_add (SQ.se (sq_v 2 rfl (.inl (by kernel_rfl)) (by kernel_rfl))) (SO.se (so_call F hr (Nat.le_refl _) (gl_of (by kernel_rfl)) (ars_c rfl (ar_v 0 rfl (.inl (by kernel_rfl)) (by kernel_rfl)) (ars_c rfl (ar_val (SQ.se (sq_ix hu (sq_v 3 rfl (.inl (by kernel_rfl)) (by kernel_rfl)) (sq_int)))) (ars_nil)))))) nd rfl (.inl (by kernel_rfl)))) (sss_one (ss_set (i := 2) (se_bin opx_add (SQ.se (sq_v 2 rfl (.inl (by kernel_rfl)) (by kernel_rfl))) (se_bin opx_mul (SQ.se (sq_ix hu (sq_v 3 rfl (.inl (by kernel_rfl)) (by kernel_rfl)) (sq_int))) (SO.se (so_call F hr (Nat.le_refl _) (gl_of (by kernel_rfl)) (ars_c rfl (ar_v 0 rfl (.inl (by kernel_rfl)) (by kernel_rfl)) (ars_c rfl (ar_val (SQ.se (sq_ix hu (sq_v 3 rfl (.inl (by kernel_rfl)) (by kernel_rfl)) (sq_int)))) (ars_nil))))))) nd rfl (.inl (by kernel_rfl))))))))) (sss_one (ss_rv 2 rfl (.inl (by kernel_rfl)) (by kernel_rfl))))
theorem ok__law_length (T : Tx w K mg) (n : Nat) : Fn P w K mg base (1 + n) "_law_length" 2 (d__law_length n) := (okf__law_length T n).fn' T.g__law_length
theorem sc__law_act : FnScope ["_law_source", "_law_pairs_here", "_law_parts_here", "_law_short", "_law_way", "_law_name", "_law_kind_here", "_law_acts"] ["_law_source", "_law_pairs_here", "_law_parts_here"] (defScope st__law_act) := ⟨rfl, rfl, rfl, by decide +kernel, rfl, by decide +kernel, by decide +kernel⟩
theorem okf__law_act (T : Tx w K mg) : OkF P w K mg base 7 D__law_act 3 d__law_act := by
  refine .mk' (j := 6) T.fn__law_act sc__law_act (fun _ _ _ _ _ _ us hl => match us, hl with | [_, _, _], _ => rfl) fun cdv A outer s H E hr => ?_
  have nd := sc__law_act.nd
  have hu := DL.Room.u100 hr
  exact sss_cons (ss_setLc (i := 3) (ow := [("_law_name", 5), ("_law_acts", 7)]) rfl nd rfl (by kernel_rfl) (si_v 2 rfl (.inr (.inl (by kernel_rfl))) (by kernel_rfl)) (blkOk_of (by kernel_rfl)) (fun s H C cl fp => sw_tup rfl (sws_cons (sw_name (i := 5) (by decide) nd rfl (.inl (by kernel_rfl)) (.inr (by kernel_rfl))) (sws_cons (sw_name (i := 7) (by decide) nd rfl (.inl (by kernel_rfl)) (.inr (by kernel_rfl))) (sws_nil)))) (fun s H C cl fp => sf_one (st_cmp opx_le (SO.se (so_call (ok__law_length T 5) hr (by decide) (gl_of (by kernel_rfl)) (ars_c rfl (ar_v 2 rfl (.inr (.inl (by kernel_rfl))) (by kernel_rfl)) (ars_c rfl (ar_v 5 rfl (.inl (by kernel_rfl)) (by kernel_rfl)) (ars_nil))))) (SQ.se (sq_int)) rfl)) (fun s H C cl fp => SQ.se (sq_v 5 rfl (.inl (by kernel_rfl)) (by kernel_rfl))) rfl rfl (by kernel_rfl)) (sss_cons (ss_seto (i := 4) (so_call (ok__law_take T) hr (by decide) (gl_of (by kernel_rfl)) (ars_c rfl (ar_v 0 rfl (.inl (by kernel_rfl)) (by kernel_rfl)) (ars_c rfl (ar_val (SQ.se (sq_int))) (ars_nil)))) nd rfl (.inl (by kernel_rfl))) (sss_cons (ss_if (st_or2 (st_cmp (opx_eq hu) (SQ.se (sq_v 3 rfl (.inl (by kernel_rfl)) (by kernel_rfl))) (se_lst (sa_nil)) rfl) (st_cmp opx_lt (SQ.se (sq_v 4 rfl (.inl (by kernel_rfl)) (by kernel_rfl))) (SQ.se (sq_int)) rfl)) (sss_cons (ss_asg (SO.se (so_call (ok__law_one T) hr (by decide) (gl_of (by kernel_rfl)) (ars_c rfl (ar_v 0 rfl (.inl (by kernel_rfl)) (by kernel_rfl)) (ars_c rfl (ar_v 1 rfl (.inl (by kernel_rfl)) (by kernel_rfl)) (ars_nil))))) (sg_tup rfl (sgs_cons (sg_name (i := 5) nd rfl (.inl (by kernel_rfl))) (sgs_cons (sg_name (i := 6) nd rfl (.inl (by kernel_rfl))) (sgs_nil))))) (sss_one (ss_ret (SE.so (se_tup (sa_c rfl (SQ.se (sq_str)) (sa_c rfl (SQ.se (sq_v 5 rfl (.inl (by kernel_rfl)) (by kernel_rfl))) (sa_c rfl (SO.se (so_call (ok__law_step T) hr (by decide) (gl_of (by kernel_rfl)) (ars_c rfl (ar_v 0 rfl (.inl (by kernel_rfl)) (by kernel_rfl)) (ars_c rfl (ar_v 6 rfl (.inl (by kernel_rfl)) (by kernel_rfl)) (ars_c rfl (ar_val (se_lst (sa_c rfl (SQ.se (sq_str)) (sa_c rfl (SQ.se (sq_str)) (sa_nil))))) (ars_nil)))))) (sa_nil))))))))) (sss_nil)) (sss_cons (ss_if (st_cmp (opx_eq hu) (SQ.se (sq_v 4 rfl (.inl (by kernel_rfl)) (by kernel_rfl))) (SQ.se (sq_int)) rfl) (sss_one (ss_ret (SE.so (se_tup (sa_c rfl (SQ.se (sq_str)) (sa_c rfl (SO.se (so_call (ok__law_one T) hr (by decide) (gl_of (by kernel_rfl)) (ars_c rfl (ar_v 0 rfl (.inl (by kernel_rfl)) (by kernel_rfl)) (ars_c rfl (ar_v 3 rfl (.inl (by kernel_rfl)) (by kernel_rfl)) (ars_nil))))) (sa_nil))))))) (sss_nil)) (sss_one (ss_ret (SE.so (se_tup (sa_c rfl (SQ.se (sq_str)) (sa_c rfl (se_bin opx_add (SQ.se (sq_int)) (SO.se (so_call (ok__law_take T) hr (by decide) (gl_of (by kernel_rfl)) (ars_c rfl (ar_v 0 rfl (.inl (by kernel_rfl)) (by kernel_rfl)) (ars_c rfl (ar_val (SQ.se (sq_int))) (ars_nil)))))) (sa_c rfl (SO.se (so_call (ok__law_one T) hr (by decide) (gl_of (by kernel_rfl)) (ars_c rfl (ar_v 0 rfl (.inl (by kernel_rfl)) (by kernel_rfl)) (ars_c rfl (ar_v 3 rfl (.inl (by kernel_rfl)) (by kernel_rfl)) (ars_nil))))) (sa_nil)))))))))))
theorem ok__law_act (T : Tx w K mg) : Fn P w K mg base 7 "_law_act" 3 d__law_act := (okf__law_act T).fn' T.g__law_act
theorem sc__law_parts : FnScope ["_law_source", "_law_pairs_here", "_law_most", "_law_parts_here", "_law_name", "_law_acts", "_law_turn"] ["_law_source", "_law_pairs_here", "_law_most"] (defScope st__law_parts) := ⟨rfl, rfl, rfl, by decide +kernel, rfl, by decide +kernel, by decide +kernel⟩
theorem okf__law_parts (T : Tx w K mg) : OkF P w K mg base 8 D__law_parts 3 d__law_parts := by
  refine .mk' (j := 7) T.fn__law_parts sc__law_parts (fun _ _ _ _ _ _ us hl => match us, hl with | [_, _, _], _ => rfl) fun cdv A outer s H E hr => ?_
  have nd := sc__law_parts.nd
  have hu := DL.Room.u100 hr
  exact sss_cons (ss_seto (i := 3) (so_lst (sa_nil)) nd rfl (.inr (by kernel_rfl))) (sss_cons (ss_for rfl rfl rfl (se_slL (se_lst (sa_c rfl (SQ.se (sq_str)) (sa_c rfl (SQ.se (sq_str)) (sa_c rfl (SQ.se (sq_str)) (sa_c rfl (SQ.se (sq_str)) (sa_nil)))))) (se_bin opx_sub (se_neg (SQ.se (sq_int))) (SO.se (so_call (ok__law_take T) hr (by decide) (gl_of (by kernel_rfl)) (ars_c rfl (ar_v 0 rfl (.inr (.inl (by kernel_rfl))) (by kernel_rfl)) (ars_c rfl (ar_v 2 rfl (.inl (by kernel_rfl)) (by kernel_rfl)) (ars_nil))))))) (sg_name (i := 4) nd rfl (.inl (by kernel_rfl))) (sss_cons (ss_setLc (i := 5) (ow := [("_law_turn", 6)]) rfl nd rfl (by kernel_rfl) (si_range1 (gl_of (by kernel_rfl)) (T.free _ (by decide)) (SO.se (so_call (ok__law_one T) hr (by decide) (gl_of (by kernel_rfl)) (ars_c rfl (ar_v 0 rfl (.inr (.inl (by kernel_rfl))) (by kernel_rfl)) (ars_c rfl (ar_val (se_lst (sa_c rfl (SQ.se (sq_int)) (sa_c rfl (SQ.se (sq_int)) (sa_c rfl (SQ.se (sq_int)) (sa_c rfl (SQ.se (sq_int)) (sa_c rfl (SQ.se (sq_int)) (sa_c rfl (SQ.se (sq_int)) (sa_nil))))))))) (ars_nil)))))) (blkOk_of (by kernel_rfl)) (fun s H C cl fp => sw_name (i := 6) (by decide) nd rfl (.inl (by kernel_rfl)) (.inr (by kernel_rfl))) (fun s H C cl fp => sf_nil) (fun s H C cl fp => SO.se (so_call (ok__law_act T) hr (by decide) (gl_of (by kernel_rfl)) (ars_c rfl (ar_v 0 rfl (.inr (.inl (by kernel_rfl))) (by kernel_rfl)) (ars_c rfl (ar_v 1 rfl (.inr (.inl (by kernel_rfl))) (by kernel_rfl)) (ars_c rfl (ar_v 3 rfl (.inr (.inl (by kernel_rfl))) (by kernel_rfl)) (ars_nil)))))) rfl rfl (by kernel_rfl)) (sss_one (ss_app (i := 3) (se_tup (sa_c rfl (SQ.se (sq_v 4 rfl (.inl (by kernel_rfl)) (by kernel_rfl))) (sa_c rfl (se_cty1 ct_tuple (gl_of (by kernel_rfl)) (T.free _ (by decide)) rfl (SQ.sr (sq_v 5 rfl (.inl (by kernel_rfl)) (by kernel_rfl)))) (sa_nil)))) rfl (.inr (.inl (by kernel_rfl))))))) (sss_one (ss_ret (SE.so (se_cty1 ct_tuple (gl_of (by kernel_rfl)) (T.free _ (by decide)) rfl (SQ.sr (sq_v 3 rfl (.inr (.inl (by kernel_rfl))) (by kernel_rfl))))))))
theorem ok__law_parts (T : Tx w K mg) : Fn P w K mg base 8 "_law_parts" 3 d__law_parts := (okf__law_parts T).fn' T.g__law_parts
theorem sc__law_wrong_part : FnScope ["_law_source", "_law_pairs_here", "_law_names", "_law_name", "_law_kind_here", "_law_step_here", "_law_acts", "_law_wrong"] ["_law_source", "_law_pairs_here", "_law_names"] (defScope st__law_wrong_part) := ⟨rfl, rfl, rfl, by decide +kernel, rfl, by decide +kernel, by decide +kernel⟩
theorem okf__law_wrong_part (T : Tx w K mg) : OkF P w K mg base 4 D__law_wrong_part 3 d__law_wrong_part := by
  refine .mk' (j := 3) T.fn__law_wrong_part sc__law_wrong_part (fun _ _ _ _ _ _ us hl => match us, hl with | [_, _, _], _ => rfl) fun cdv A outer s H E hr => ?_
  have nd := sc__law_wrong_part.nd
  have hu := DL.Room.u100 hr
  exact sss_cons (ss_asg (SQ.se (sq_ix hu (sq_v 1 rfl (.inl (by kernel_rfl)) (by kernel_rfl)) (sq_int))) (sg_tup rfl (sgs_cons (sg_name (i := 3) nd rfl (.inl (by kernel_rfl))) (sgs_cons (sg_name (i := 4) nd rfl (.inl (by kernel_rfl))) (sgs_nil))))) (sss_cons (ss_seto (i := 5) (so_call (ok__law_step T) hr (by decide) (gl_of (by kernel_rfl)) (ars_c rfl (ar_v 0 rfl (.inl (by kernel_rfl)) (by kernel_rfl)) (ars_c rfl (ar_v 4 rfl (.inl (by kernel_rfl)) (by kernel_rfl)) (ars_c rfl (ar_val (se_lst (sa_c rfl (SQ.se (sq_str)) (sa_nil)))) (ars_nil))))) nd rfl (.inl (by kernel_rfl))) (sss_cons (ss_set (i := 6) (se_lst (sa_c rfl (se_tup (sa_c rfl (se_tup (sa_c rfl (SQ.se (sq_str)) (sa_c rfl (SQ.se (sq_str)) (sa_c rfl (SQ.se (sq_v 5 rfl (.inl (by kernel_rfl)) (by kernel_rfl))) (sa_nil))))) (sa_nil))) (sa_c rfl (se_tup (sa_c rfl (se_tup (sa_c rfl (SQ.se (sq_str)) (sa_c rfl (SQ.se (sq_v 3 rfl (.inl (by kernel_rfl)) (by kernel_rfl))) (sa_c rfl (se_tup (sa_c rfl (SQ.se (sq_str)) (sa_nil))) (sa_nil))))) (sa_nil))) (sa_c rfl (se_tup (sa_c rfl (se_tup (sa_c rfl (SQ.se (sq_str)) (sa_c rfl (SQ.se (sq_str)) (sa_nil)))) (sa_nil))) (sa_c rfl (se_tup (sa_c rfl (se_tup (sa_c rfl (SQ.se (sq_str)) (sa_c rfl (SQ.se (sq_int)) (sa_c rfl (SQ.se (sq_str)) (sa_nil))))) (sa_nil))) (sa_c rfl (se_tup (sa_c rfl (se_tup (sa_c rfl (SQ.se (sq_str)) (sa_nil))) (sa_nil))) (sa_nil))))))) nd rfl (.inl (by kernel_rfl))) (sss_cons (ss_set (i := 6) (se_bin opx_add (SQ.se (sq_v 6 rfl (.inl (by kernel_rfl)) (by kernel_rfl))) (se_lst (sa_c rfl (se_lst (sa_c rfl (se_tup (sa_c rfl (SQ.se (sq_str)) (sa_c rfl (SQ.se (sq_v 3 rfl (.inl (by kernel_rfl)) (by kernel_rfl))) (sa_c rfl (SQ.se (sq_v 5 rfl (.inl (by kernel_rfl)) (by kernel_rfl))) (sa_nil))))) (sa_nil))) (sa_c rfl (SQ.se (sq_non)) (sa_c rfl (se_tup (sa_c rfl (se_tup (sa_c rfl (SQ.se (sq_str)) (sa_c rfl (SQ.se (sq_v 3 rfl (.inl (by kernel_rfl)) (by kernel_rfl))) (sa_nil)))) (sa_nil))) (sa_c rfl (se_tup (sa_c rfl (se_tup (sa_c rfl (SQ.se (sq_str)) (sa_c rfl (SQ.se (sq_str)) (sa_nil)))) (sa_nil))) (sa_c rfl (se_bin opx_mul (se_tup (sa_c rfl (se_tup (sa_c rfl (SQ.se (sq_str)) (sa_c rfl (SQ.se (sq_v 3 rfl (.inl (by kernel_rfl)) (by kernel_rfl))) (sa_c rfl (SQ.se (sq_v 5 rfl (.inl (by kernel_rfl)) (by kernel_rfl))) (sa_nil))))) (sa_nil))) (SQ.se (sq_int))) (sa_nil)))))))) nd rfl (.inl (by kernel_rfl))) (sss_cons (ss_set (i := 6) (se_bin opx_add (SQ.se (sq_v 6 rfl (.inl (by kernel_rfl)) (by kernel_rfl))) (se_lst (sa_c rfl (se_tup (sa_c rfl (se_tup (sa_c rfl (SQ.se (sq_str)) (sa_c rfl (SQ.se (sq_bl)) (sa_c rfl (SQ.se (sq_v 3 rfl (.inl (by kernel_rfl)) (by kernel_rfl))) (sa_nil))))) (sa_nil))) (sa_c rfl (se_tup (sa_c rfl (se_tup (sa_c rfl (SQ.se (sq_str)) (sa_c rfl (SQ.se (sq_v 3 rfl (.inl (by kernel_rfl)) (by kernel_rfl))) (sa_c rfl (se_cty1 (ct_list rfl) (gl_of (by kernel_rfl)) (T.free _ (by decide)) rfl (SQ.sr (sq_v 5 rfl (.inl (by kernel_rfl)) (by kernel_rfl)))) (sa_nil))))) (sa_nil))) (sa_c rfl (se_tup (sa_c rfl (se_tup (sa_nil)) (sa_nil))) (sa_c rfl (se_tup (sa_c rfl (SQ.se (sq_non)) (sa_nil))) (sa_c rfl (se_tup (sa_c rfl (se_tup (sa_c rfl (SQ.se (sq_str)) (sa_c rfl (SQ.se (sq_v 3 rfl (.inl (by kernel_rfl)) (by kernel_rfl))) (sa_c rfl (SQ.se (sq_v 3 rfl (.inl (by kernel_rfl)) (by kernel_rfl))) (sa_nil))))) (sa_nil))) (sa_nil)))))))) nd rfl (.inl (by kernel_rfl))) (sss_cons (ss_if (st_cmp (opx_ne hu) (SQ.se (sq_v 2 rfl (.inl (by kernel_rfl)) (by kernel_rfl))) (se_lst (sa_nil)) rfl) (sss_cons (ss_set (i := 6) (se_bin opx_add (SQ.se (sq_v 6 rfl (.inl (by kernel_rfl)) (by kernel_rfl))) (se_lst (sa_c rfl (se_tup (sa_c rfl (se_tup (sa_c rfl (SQ.se (sq_str)) (sa_c rfl (SQ.se (sq_int)) (sa_c rfl (SQ.se (sq_ix hu (sq_v 2 rfl (.inl (by kernel_rfl)) (by kernel_rfl)) (sq_int))) (sa_nil))))) (sa_nil))) (sa_c rfl (se_tup (sa_c rfl (se_tup (sa_c rfl (SQ.se (sq_str)) (sa_c rfl (se_bin opx_add (se_bin opx_pow (SQ.se (sq_int)) (SQ.se (sq_int))) (SQ.se (sq_int))) (sa_c rfl (SQ.se (sq_ix hu (sq_v 2 rfl (.inl (by kernel_rfl)) (by kernel_rfl)) (sq_int))) (sa_nil))))) (sa_nil))) (sa_c rfl (se_tup (sa_c rfl (se_tup (sa_c rfl (SQ.se (sq_str)) (sa_c rfl (SQ.se (sq_str)) (sa_c rfl (SQ.se (sq_ix hu (sq_v 2 rfl (.inl (by kernel_rfl)) (by kernel_rfl)) (sq_int))) (sa_nil))))) (sa_nil))) (sa_nil)))))) nd rfl (.inl (by kernel_rfl))) (sss_one (ss_if (st_cmp (opx_eq hu) (SO.se (so_call (ok__law_take T) hr (by decide) (gl_of (by kernel_rfl)) (ars_c rfl (ar_v 0 rfl (.inl (by kernel_rfl)) (by kernel_rfl)) (ars_c rfl (ar_val (SQ.se (sq_int))) (ars_nil))))) (SQ.se (sq_int)) rfl) (sss_one (ss_ret (SE.so (se_tup (sa_c rfl (SQ.se (sq_ix hu (sq_v 2 rfl (.inl (by kernel_rfl)) (by kernel_rfl)) (sq_int))) (sa_c rfl (se_tup (sa_nil)) (sa_nil))))))) (sss_nil)))) (sss_nil)) (sss_cons (ss_seto (i := 7) (so_call (ok__law_one T) hr (by decide) (gl_of (by kernel_rfl)) (ars_c rfl (ar_v 0 rfl (.inl (by kernel_rfl)) (by kernel_rfl)) (ars_c rfl (ar_val (se_lst (sa_c rfl (SQ.se (sq_non)) (sa_c rfl (se_tup (sa_c rfl (SQ.se (sq_str)) (sa_nil))) (sa_c rfl (se_lst (sa_c rfl (SQ.se (sq_str)) (sa_c rfl (se_tup (sa_nil)) (sa_nil)))) (sa_c rfl (se_tup (sa_c rfl (SQ.se (sq_str)) (sa_c rfl (se_tup (sa_nil)) (sa_nil)))) (sa_c rfl (se_tup (sa_c rfl (SQ.se (sq_int)) (sa_c rfl (se_tup (sa_nil)) (sa_nil)))) (sa_c rfl (se_tup (sa_c rfl (SQ.se (sq_str)) (sa_c rfl (se_tup (sa_nil)) (sa_nil)))) (sa_c rfl (se_tup (sa_c rfl (SQ.se (sq_str)) (sa_c rfl (se_tup (sa_nil)) (sa_c rfl (se_tup (sa_nil)) (sa_nil))))) (sa_c rfl (SQ.se (sq_str)) (sa_nil))))))))))) (ars_nil)))) nd rfl (.inl (by kernel_rfl))) (sss_one (ss_ret (SE.so (se_if (st_cmp (opx_eq hu) (SO.se (so_call (ok__law_take T) hr (by decide) (gl_of (by kernel_rfl)) (ars_c rfl (ar_v 0 rfl (.inl (by kernel_rfl)) (by kernel_rfl)) (ars_c rfl (ar_val (SQ.se (sq_int))) (ars_nil))))) (SQ.se (sq_int)) rfl) (se_tup (sa_c rfl (SQ.se (sq_str)) (sa_c rfl (SO.se (so_call (ok__law_one T) hr (by decide) (gl_of (by kernel_rfl)) (ars_c rfl (ar_v 0 rfl (.inl (by kernel_rfl)) (by kernel_rfl)) (ars_c rfl (ar_v 6 rfl (.inl (by kernel_rfl)) (by kernel_rfl)) (ars_nil))))) (sa_nil)))) (SQ.se (sq_v 7 rfl (.inl (by kernel_rfl)) (by kernel_rfl)))))))))))))
theorem ok__law_wrong_part (T : Tx w K mg) : Fn P w K mg base 4 "_law_wrong_part" 3 d__law_wrong_part := (okf__law_wrong_part T).fn' T.g__law_wrong_part
theorem sc_Boxes_eq : FnScope ["self", "other"] ["self", "other"] (defScope st_Boxes_eq) := ⟨rfl, rfl, rfl, by decide +kernel, rfl, by decide +kernel, by decide +kernel⟩
theorem okf_Boxes_eq (T : Tx w K mg) : OkF P w K mg base 2 D_Boxes_eq 2 d_Boxes_eq := by
  refine .mk' (j := 1) T.fn_Boxes_eq sc_Boxes_eq (fun _ _ _ _ _ _ us hl => match us, hl with | [_, _], _ => rfl) fun cdv A outer s H E hr => ?_
  have nd := sc_Boxes_eq.nd
  have hu := DL.Room.u100 hr
  exact sss_one (ss_ret (SE.so (se_and2 (se_isC T.ins T.is_Boxes (gl_of (by kernel_rfl)) (T.free _ (by decide)) (SQ.se (sq_v 1 rfl (.inl (by kernel_rfl)) (by kernel_rfl))) (gl_of (by kernel_rfl)) T.g_Boxes) (se_cmp (opx_eq hu) (SO.se (so_meth0 (mt_Boxes_listed T) hr (by decide) (ar_v 0 rfl (.inl (by kernel_rfl)) (by kernel_rfl)))) (SO.se (so_meth0 (mt_Boxes_listed T) hr (by decide) (ar_v 1 rfl (.inl (by kernel_rfl)) (by kernel_rfl)))) rfl))))
theorem eqc_Boxes (T : Tx w K mg) : EqC P w K mg base 2 cBoxes d_Boxes_eq := (okf_Boxes_eq T).eqc T.eqf_Boxes
theorem sc_Program_init : FnScope ["self", "boxes", "parts", "index", "part"] ["self", "boxes", "parts"] (defScope st_Program_init) := ⟨rfl, rfl, rfl, by decide +kernel, rfl, by decide +kernel, by decide +kernel⟩
theorem okf_Program_init (T : Tx w K mg) : OkF P w K mg base 8 D_Program_init 3 d_Program_init := by
  refine .mk' (j := 7) T.fn_Program_init sc_Program_init (fun _ _ _ _ _ _ us hl => match us, hl with | [_, _, _], _ => rfl) fun cdv A outer s H E hr => ?_
  have nd := sc_Program_init.nd
  have hu := DL.Room.u100 hr
  exact sss_cons (ss_expr (so_call (ok_check_boxes T) hr (by decide) (gl_of (by kernel_rfl)) (ars_c rfl (ar_v 1 rfl (.inl (by kernel_rfl)) (by kernel_rfl)) (ars_nil)))) (sss_cons (ss_if (st_or2 (st_not (st_val (SO.se (so_call (ok_is_line T) hr (by decide) (gl_of (by kernel_rfl)) (ars_c rfl (ar_v 2 rfl (.inl (by kernel_rfl)) (by kernel_rfl)) (ars_nil)))))) (st_not (st_chain opx_le opx_le (SQ.se (sq_int)) (se_cb1 ct_len (gl_of (by kernel_rfl)) (T.free _ (by decide)) rfl (SQ.sr (sq_v 2 rfl (.inl (by kernel_rfl)) (by kernel_rfl)))) (SQ.se (sq_k (by kernel_rfl) T.con_MOST_PARTS (by kernel_rfl))) rfl))) (sss_one (ss_raise rfl (exk_NoProgram T) hr (by decide) (gl_of (by kernel_rfl)) (SQ.se (sq_non)))) (sss_nil)) (sss_cons (ss_fld (i := 0) (cl := [cBoxes, cProgram]) T.at_own_boxes (SE.so (SQ.se (sq_v 1 rfl (.inl (by kernel_rfl)) (by kernel_rfl)))) rfl (.inl (by kernel_rfl))) (sss_cons (ss_fld (i := 0) (cl := [cBoxes, cProgram]) T.at_own_acts (so_dic0) rfl (.inl (by kernel_rfl))) (sss_one (ss_forI rfl rfl rfl (si_enumA (gl_of (by kernel_rfl)) (T.free _ (by decide)) (SQ.se (sq_v 2 rfl (.inl (by kernel_rfl)) (by kernel_rfl)))) (sg_tup rfl (sgs_cons (sg_name (i := 3) nd rfl (.inl (by kernel_rfl))) (sgs_cons (sg_name (i := 4) nd rfl (.inl (by kernel_rfl))) (sgs_nil)))) (sss_cons (ss_if (st_not (st_val (SO.se (so_call (ok_is_program_part T) hr (by decide) (gl_of (by kernel_rfl)) (ars_c rfl (ar_v 1 rfl (.inl (by kernel_rfl)) (by kernel_rfl)) (ars_c rfl (ar_val (SO.se (so_meth0 (mt_Program_names T) hr (by decide) (ar_v 0 rfl (.inl (by kernel_rfl)) (by kernel_rfl))))) (ars_c rfl (ar_v 4 rfl (.inl (by kernel_rfl)) (by kernel_rfl)) (ars_nil)))))))) (sss_one (ss_raise rfl (exk_NoProgram T) hr (by decide) (gl_of (by kernel_rfl)) (SQ.se (sq_v 3 rfl (.inl (by kernel_rfl)) (by kernel_rfl))))) (sss_nil)) (sss_one (ss_putF (i := 0) (cl := [cBoxes, cProgram]) hu T.at_own_acts (SQ.se (sq_ix hu (sq_v 4 rfl (.inl (by kernel_rfl)) (by kernel_rfl)) (sq_int))) rfl (.inl (by kernel_rfl)) (sq_ix hu (sq_v 4 rfl (.inl (by kernel_rfl)) (by kernel_rfl)) (sq_int))))))))))
theorem mkr_Program (T : Tx w K mg) : Mkr P w K mg base 8 "Program" cProgram 3 d_Program_init := (okf_Program_init T).mkr T.mk_Program T.g_Program
theorem sc_Program_eq : FnScope ["self", "other"] ["self", "other"] (defScope st_Program_eq) := ⟨rfl, rfl, rfl, by decide +kernel, rfl, by decide +kernel, by decide +kernel⟩
theorem okf_Program_eq (T : Tx w K mg) : OkF P w K mg base 4 D_Program_eq 2 d_Program_eq := by
  refine .mk' (j := 3) T.fn_Program_eq sc_Program_eq (fun _ _ _ _ _ _ us hl => match us, hl with | [_, _], _ => rfl) fun cdv A outer s H E hr => ?_
  have nd := sc_Program_eq.nd
  have hu := DL.Room.u100 hr
  exact sss_cons (ss_if (st_or2 (st_not (st_val (se_isC T.ins T.is_Program (gl_of (by kernel_rfl)) (T.free _ (by decide)) (SQ.se (sq_v 1 rfl (.inl (by kernel_rfl)) (by kernel_rfl))) (gl_of (by kernel_rfl)) T.g_Program))) (st_cmp (OpX.or (opx_ne hu) (opx_neT T.eq_Boxes (eqc_Boxes T) (hr.mono (by decide)) T.ne_Boxes.1 T.ne_Boxes.2)) (SQ.se (sq_attr (cl := [cBoxes, cProgram]) (f := "own_boxes") (sq_v 0 rfl (.inl (by kernel_rfl)) (by kernel_rfl)) T.at_own_boxes rfl)) (SQ.se (sq_attr (cl := [cBoxes, cProgram]) (f := "own_boxes") (sq_v 1 rfl (.inl (by kernel_rfl)) (by kernel_rfl)) T.at_own_boxes rfl)) rfl)) (sss_one (ss_ret (SE.so (SQ.se (sq_bl))))) (sss_nil)) (sss_one (ss_ret (SE.so (se_cmp (OpX.or (opx_eq hu) (opx_eqT T.eq_Boxes (eqc_Boxes T) (hr.mono (by decide)))) (SO.se (so_meth0 (mt_Program_parts T) hr (by decide) (ar_v 0 rfl (.inl (by kernel_rfl)) (by kernel_rfl)))) (SO.se (so_meth0 (mt_Program_parts T) hr (by decide) (ar_v 1 rfl (.inl (by kernel_rfl)) (by kernel_rfl)))) rfl))))
theorem eqc_Program (T : Tx w K mg) : EqC P w K mg base 4 cProgram d_Program_eq := (okf_Program_eq T).eqc T.eqf_Program
theorem sc_Program_from_row : FnScope ["boxes", "row", "step"] ["boxes", "row"] (defScope st_Program_from_row) := ⟨rfl, rfl, rfl, by decide +kernel, rfl, by decide +kernel, by decide +kernel⟩
theorem okf_Program_from_row (T : Tx w K mg) : OkF P w K mg base 10 D_Program_from_row 2 d_Program_from_row := by
  refine .mk' (j := 9) T.fn_Program_from_row sc_Program_from_row (fun _ _ _ _ _ _ us hl => match us, hl with | [_, _], _ => rfl) fun cdv A outer s H E hr => ?_
  have nd := sc_Program_from_row.nd
  have hu := DL.Room.u100 hr
  exact sss_cons (ss_if (st_not (st_val (se_isC T.ins T.is_Boxes (gl_of (by kernel_rfl)) (T.free _ (by decide)) (SQ.se (sq_v 0 rfl (.inl (by kernel_rfl)) (by kernel_rfl))) (gl_of (by kernel_rfl)) T.g_Boxes))) (sss_one (ss_raise rfl (exk_NoBoxes T) hr (by decide) (gl_of (by kernel_rfl)) (SQ.se (sq_v 0 rfl (.inl (by kernel_rfl)) (by kernel_rfl))))) (sss_nil)) (sss_cons (ss_if (st_not (st_val (SO.se (so_call (ok_is_mixed_row T) hr (by decide) (gl_of (by kernel_rfl)) (ars_c rfl (ar_v 0 rfl (.inl (by kernel_rfl)) (by kernel_rfl)) (ars_c rfl (ar_v 1 rfl (.inl (by kernel_rfl)) (by kernel_rfl)) (ars_nil))))))) (sss_one (ss_raise rfl (exk_NoRow T) hr (by decide) (gl_of (by kernel_rfl)) (SQ.se (sq_v 1 rfl (.inl (by kernel_rfl)) (by kernel_rfl))))) (sss_nil)) (sss_one (ss_ret (so_make (mkr_Program T) hr (by decide) (gl_of (by kernel_rfl)) (ars_c rfl (ar_v 0 rfl (.inl (by kernel_rfl)) (by kernel_rfl)) (ars_c rfl (ar_val (se_tup (sa_c rfl (se_tup (sa_c rfl (SQ.se (sq_k (by kernel_rfl) T.con_MAIN_NAME (by kernel_rfl))) (sa_c rfl (se_cty1 ct_tuple (gl_of (by kernel_rfl)) (T.free _ (by decide)) rfl (SE.sr (SO.se (so_comp (ow := [("step", 2)]) rfl nd (si_seq (SQ.se (sq_v 1 rfl (.inl (by kernel_rfl)) (by kernel_rfl)))) (blkOk_of (by kernel_rfl)) (fun s H C cl fp => sw_name (i := 2) (by decide) nd rfl (.inl (by kernel_rfl)) (.inr (by kernel_rfl))) (fun s H C cl fp => sf_nil) (fun s H C cl fp => se_tup (sa_c rfl (SQ.se (sq_str)) (sa_star (SQ.se (sq_v 2 rfl (.inl (by kernel_rfl)) (by kernel_rfl))) (sa_nil)))))))) (sa_nil)))) (sa_nil)))) (ars_nil)))))))
theorem sm_Program_from_row (T : Tx w K mg) : Sm P w K mg base 10 "Program" "from_row" 2 d_Program_from_row := (okf_Program_from_row T).sm T.g_Program T.st_Program_from_row
theorem sc__law_kind : FnScope ["_law_source", "_law_sorts"] ["_law_source"] (defScope st__law_kind) := ⟨rfl, rfl, rfl, by decide +kernel, rfl, by decide +kernel, by decide +kernel⟩
theorem okf__law_kind (T : Tx w K mg) : OkF P w K mg base 4 D__law_kind 1 d__law_kind := by
  refine .mk' (j := 3) T.fn__law_kind sc__law_kind (fun _ _ _ _ _ _ us hl => match us, hl with | [_], _ => rfl) fun cdv A outer s H E hr => ?_
  have nd := sc__law_kind.nd
  have hu := DL.Room.u100 hr
  exact sss_cons (ss_set (i := 1) (se_lst (sa_c rfl (SQ.se (sq_str)) (sa_c rfl (SQ.se (sq_str)) (sa_c rfl (SQ.se (sq_str)) (sa_c rfl (SQ.se (sq_str)) (sa_c rfl (SQ.se (sq_str)) (sa_c rfl (SQ.se (sq_str)) (sa_c rfl (SQ.se (sq_str)) (sa_nil))))))))) nd rfl (.inl (by kernel_rfl))) (sss_one (ss_ret (so_call (ok__law_kind_of T) hr (by decide) (gl_of (by kernel_rfl)) (ars_c rfl (ar_v 0 rfl (.inl (by kernel_rfl)) (by kernel_rfl)) (ars_c rfl (ar_val (SO.se (so_call (ok__law_one T) hr (by decide) (gl_of (by kernel_rfl)) (ars_c rfl (ar_v 0 rfl (.inl (by kernel_rfl)) (by kernel_rfl)) (ars_c rfl (ar_v 1 rfl (.inl (by kernel_rfl)) (by kernel_rfl)) (ars_nil)))))) (ars_nil))))))
theorem ok__law_kind (T : Tx w K mg) : Fn P w K mg base 4 "_law_kind" 1 d__law_kind := (okf__law_kind T).fn' T.g__law_kind
theorem sc__law_pairs : FnScope ["_law_source", "_law_most", "_law_names", "_law_name"] ["_law_source", "_law_most"] (defScope st__law_pairs) := ⟨rfl, rfl, rfl, by decide +kernel, rfl, by decide +kernel, by decide +kernel⟩
theorem okf__law_pairs (T : Tx w K mg) : OkF P w K mg base 5 D__law_pairs 2 d__law_pairs := by
  refine .mk' (j := 4) T.fn__law_pairs sc__law_pairs (fun _ _ _ _ _ _ us hl => match us, hl with | [_, _], _ => rfl) fun cdv A outer s H E hr => ?_
  have nd := sc__law_pairs.nd
  have hu := DL.Room.u100 hr
  exact sss_cons (ss_set (i := 2) (se_slH (se_lst (sa_c rfl (SQ.se (sq_str)) (sa_c rfl (SQ.se (sq_str)) (sa_c rfl (SQ.se (sq_str)) (sa_c rfl (SQ.se (sq_str)) (sa_nil)))))) (se_bin opx_add (SQ.se (sq_int)) (SO.se (so_call (ok__law_take T) hr (by decide) (gl_of (by kernel_rfl)) (ars_c rfl (ar_v 0 rfl (.inr (.inl (by kernel_rfl))) (by kernel_rfl)) (ars_c rfl (ar_v 1 rfl (.inl (by kernel_rfl)) (by kernel_rfl)) (ars_nil))))))) nd rfl (.inl (by kernel_rfl))) (sss_one (ss_ret (SE.so (se_cty1 ct_tuple (gl_of (by kernel_rfl)) (T.free _ (by decide)) rfl (SE.sr (SO.se (so_comp (ow := [("_law_name", 3)]) rfl nd (si_seq (SQ.se (sq_v 2 rfl (.inl (by kernel_rfl)) (by kernel_rfl)))) (blkOk_of (by kernel_rfl)) (fun s H C cl fp => sw_name (i := 3) (by decide) nd rfl (.inl (by kernel_rfl)) (.inr (by kernel_rfl))) (fun s H C cl fp => sf_nil) (fun s H C cl fp => se_tup (sa_c rfl (SQ.se (sq_v 3 rfl (.inl (by kernel_rfl)) (by kernel_rfl))) (sa_c rfl (SO.se (so_call (ok__law_kind T) hr (by decide) (gl_of (by kernel_rfl)) (ars_c rfl (ar_v 0 rfl (.inr (.inl (by kernel_rfl))) (by kernel_rfl)) (ars_nil)))) (sa_nil)))))))))))
theorem ok__law_pairs (T : Tx w K mg) : Fn P w K mg base 5 "_law_pairs" 2 d__law_pairs := (okf__law_pairs T).fn' T.g__law_pairs
theorem sc__law_made : FnScope ["_law_boxes", "_law_parts_here", "e"] ["_law_boxes", "_law_parts_here"] (defScope st__law_made) := ⟨rfl, rfl, rfl, by decide +kernel, rfl, by decide +kernel, by decide +kernel⟩
theorem okf__law_made (T : Tx w K mg) : OkFG P w K mg base 10 D__law_made 2 d__law_made := by
  refine .mk' (j := 9) T.fn__law_made sc__law_made (fun _ _ _ _ _ _ us hl => match us, hl with | [_, _], _ => rfl) fun cdv A outer s H E gd hr => ?_
  have nd := sc__law_made.nd
  have hu := DL.Room.u100 hr
  exact sss_one (ss_tryT (i := 2) T.excs rfl rfl nd rfl rfl (by decide) (fun pn xe => sss_one (ss_ret (SE.so (se_tup (sa_c rfl (SQ.se (sq_str)) (sa_c rfl (SO.se (so_meth0 (mt_Program_parts T) hr (by decide) (ar_val (SO.se (so_make (mkr_Program T) hr (by decide) (gl_of (by kernel_rfl)) (ars_c rfl (ar_v 0 rfl (.inl (by kernel_rfl)) (by kernel_rfl)) (ars_c rfl (ar_v 1 rfl (.inl (by kernel_rfl)) (by kernel_rfl)) (ars_nil)))))))) (sa_nil))))))) (Hds.cons ⟨rfl, by decide, .inl T.g_NoBoxes⟩ (hc_tellR gd hu IsK.str T.fld_told rfl (.inl rfl) rfl (T.free _ (by decide))) (Hds.cons ⟨rfl, by decide, .inl T.g_NoProgram⟩ (hc_tell IsK.str T.fld_told rfl (.inl rfl)) (Hds.nil))))
theorem ok__law_made (T : Tx w K mg) : FnG P w K mg base 10 "_law_made" 2 d__law_made := (okf__law_made T).fn' T.g__law_made
theorem sc__law_other : FnScope ["_law_way", "_law_program", "_law_one_here", "e"] ["_law_way", "_law_program", "_law_one_here"] (defScope st__law_other) := ⟨rfl, rfl, rfl, by decide +kernel, rfl, by decide +kernel, by decide +kernel⟩
theorem okf__law_other (T : Tx w K mg) : OkFG P w K mg base 11 D__law_other 3 d__law_other := by
  refine .mk' (j := 10) T.fn__law_other sc__law_other (fun _ _ _ _ _ _ us hl => match us, hl with | [_, _, _], _ => rfl) fun cdv A outer s H E gd hr => ?_
  have nd := sc__law_other.nd
  have hu := DL.Room.u100 hr
  exact sss_cons (ss_tryT (i := 3) T.excs rfl rfl nd rfl rfl (by decide) (fun pn xe => sss_one (ss_if (st_cmp (opx_eq hu) (SQ.se (sq_v 0 rfl (.inl (by kernel_rfl)) (by kernel_rfl))) (SQ.se (sq_int)) rfl) (sss_one (ss_expr (so_meth (mt_Program_acts_of T) hr (by decide) (ar_v 1 rfl (.inl (by kernel_rfl)) (by kernel_rfl)) (ars_c rfl (ar_v 2 rfl (.inl (by kernel_rfl)) (by kernel_rfl)) (ars_nil))))) (sss_one (ss_if (st_cmp (opx_eq hu) (SQ.se (sq_v 0 rfl (.inl (by kernel_rfl)) (by kernel_rfl))) (SQ.se (sq_int)) rfl) (sss_one (ss_expr (so_static (sm_Program_from_row T) hr (by decide) (gl_of (by kernel_rfl)) (ars_c rfl (ar_val (SO.se (so_meth0 (mt_Program_boxes T) hr (by decide) (ar_v 1 rfl (.inl (by kernel_rfl)) (by kernel_rfl))))) (ars_c rfl (ar_v 2 rfl (.inl (by kernel_rfl)) (by kernel_rfl)) (ars_nil)))))) (sss_one (ss_if (st_cmp (opx_eq hu) (SQ.se (sq_v 0 rfl (.inl (by kernel_rfl)) (by kernel_rfl))) (SQ.se (sq_int)) rfl) (sss_one (ss_expr (so_static (sm_Program_from_row T) hr (by decide) (gl_of (by kernel_rfl)) (ars_c rfl (ar_v 2 rfl (.inl (by kernel_rfl)) (by kernel_rfl)) (ars_c rfl (ar_val (se_tup (sa_nil))) (ars_nil)))))) (sss_one (ss_expr (so_call (ok_reached_parts T) hr (by decide) (gl_of (by kernel_rfl)) (ars_c rfl (ar_v 2 rfl (.inl (by kernel_rfl)) (by kernel_rfl)) (ars_nil))))))))))) (Hds.cons ⟨rfl, by decide, .inl T.g_NoPart⟩ (hc_tellR gd hu IsK.str T.fld_told rfl (.inl rfl) rfl (T.free _ (by decide))) (Hds.cons ⟨rfl, by decide, .inl T.g_NoRow⟩ (hc_tellR gd hu IsK.str T.fld_told rfl (.inl rfl) rfl (T.free _ (by decide))) (Hds.cons ⟨rfl, by decide, .inl T.g_NoBoxes⟩ (hc_tellR gd hu IsK.str T.fld_told rfl (.inl rfl) rfl (T.free _ (by decide))) (Hds.cons ⟨rfl, by decide, .inl T.g_NoProgram⟩ (hc_tellR gd hu IsK.str T.fld_told rfl (.inl rfl) rfl (T.free _ (by decide))) (Hds.nil)))))) (sss_one (ss_ret (SE.so (SQ.se (sq_non)))))
theorem ok__law_other (T : Tx w K mg) : FnG P w K mg base 11 "_law_other" 3 d__law_other := (okf__law_other T).fn' T.g__law_other
theorem sc__law_refused : FnScope ["_law_source", "_law_program", "_law_boxes", "_law_pairs_here", "_law_parts_here", "_law_spot", "_law_wrong", "_law_changed", "_law_odd", "_law_many", "_law_words", "_law_name", "_law_acts", "_law_k", "_law_way"] ["_law_source", "_law_program", "_law_boxes", "_law_pairs_here", "_law_parts_here"] (defScope st__law_refused) := ⟨rfl, rfl, rfl, by decide +kernel, rfl, by decide +kernel, by decide +kernel⟩
theorem okf__law_refused (T : Tx w K mg) : OkFG P w K mg base 12 D__law_refused 5 d__law_refused := by
  refine .mk' (j := 11) T.fn__law_refused sc__law_refused (fun _ _ _ _ _ _ us hl => match us, hl with | [_, _, _, _, _], _ => rfl) fun cdv A outer s H E gd hr => ?_
  have nd := sc__law_refused.nd
  have hu := DL.Room.u100 hr
  exact sss_cons (ss_seto (i := 5) (so_call (ok__law_take T) hr (by decide) (gl_of (by kernel_rfl)) (ars_c rfl (ar_v 0 rfl (.inl (by kernel_rfl)) (by kernel_rfl)) (ars_c rfl (ar_val (se_bin opx_add (se_cb1 ct_len (gl_of (by kernel_rfl)) (T.free _ (by decide)) rfl (SQ.sr (sq_v 4 rfl (.inl (by kernel_rfl)) (by kernel_rfl)))) (SQ.se (sq_int)))) (ars_nil)))) nd rfl (.inl (by kernel_rfl))) (sss_cons (ss_seto (i := 6) (so_call (ok__law_wrong_part T) hr (by decide) (gl_of (by kernel_rfl)) (ars_c rfl (ar_v 0 rfl (.inl (by kernel_rfl)) (by kernel_rfl)) (ars_c rfl (ar_v 3 rfl (.inl (by kernel_rfl)) (by kernel_rfl)) (ars_c rfl (ar_val (SO.se (so_comp (ow := [("_law_name", 11), ("_law_acts", 12)]) rfl nd (si_seq (se_slH (SQ.se (sq_v 4 rfl (.inl (by kernel_rfl)) (by kernel_rfl))) (SQ.se (sq_v 5 rfl (.inl (by kernel_rfl)) (by kernel_rfl))))) (blkOk_of (by kernel_rfl)) (fun s H C cl fp => sw_tup rfl (sws_cons (sw_name (i := 11) (by decide) nd rfl (.inl (by kernel_rfl)) (.inr (by kernel_rfl))) (sws_cons (sw_name (i := 12) (by decide) nd rfl (.inl (by kernel_rfl)) (.inr (by kernel_rfl))) (sws_nil)))) (fun s H C cl fp => sf_nil) (fun s H C cl fp => SQ.se (sq_v 11 rfl (.inl (by kernel_rfl)) (by kernel_rfl)))))) (ars_nil))))) nd rfl (.inl (by kernel_rfl))) (sss_cons (ss_set (i := 7) (se_bin opx_add (se_bin opx_add (se_cty1 (ct_list rfl) (gl_of (by kernel_rfl)) (T.free _ (by decide)) rfl (SE.sr (se_slH (SQ.se (sq_v 4 rfl (.inl (by kernel_rfl)) (by kernel_rfl))) (SQ.se (sq_v 5 rfl (.inl (by kernel_rfl)) (by kernel_rfl)))))) (se_lst (sa_c rfl (SQ.se (sq_v 6 rfl (.inl (by kernel_rfl)) (by kernel_rfl))) (sa_nil)))) (se_cty1 (ct_list rfl) (gl_of (by kernel_rfl)) (T.free _ (by decide)) rfl (SE.sr (se_slL (SQ.se (sq_v 4 rfl (.inl (by kernel_rfl)) (by kernel_rfl))) (SQ.se (sq_v 5 rfl (.inl (by kernel_rfl)) (by kernel_rfl))))))) nd rfl (.inl (by kernel_rfl))) (sss_cons (ss_if (st_cmp (opx_ne hu) (SO.se (so_callG gd (ok__law_made T) hr (by decide) (gl_of (by kernel_rfl)) (ars_c rfl (ar_v 2 rfl (.inl (by kernel_rfl)) (by kernel_rfl)) (ars_c rfl (ar_v 7 rfl (.inl (by kernel_rfl)) (by kernel_rfl)) (ars_nil))))) (se_tup (sa_c rfl (SQ.se (sq_str)) (sa_c rfl (SQ.se (sq_v 5 rfl (.inl (by kernel_rfl)) (by kernel_rfl))) (sa_nil)))) rfl) (sss_one (ss_ret (SE.so (SQ.se (sq_bl))))) (sss_nil)) (sss_cons (ss_for rfl rfl rfl (se_lst (sa_c rfl (SQ.se (sq_non)) (sa_c rfl (SQ.se (sq_int)) (sa_c rfl (se_tup (sa_nil)) (sa_c rfl (se_lst (sa_nil)) (sa_c rfl (SQ.se (sq_str)) (sa_c rfl (SO.se (so_dic0)) (sa_nil)))))))) (sg_name (i := 8) nd rfl (.inr (by kernel_rfl))) (sss_one (ss_if (st_or2 (st_cmp (opx_ne hu) (SO.se (so_callG gd (ok__law_made T) hr (by decide) (gl_of (by kernel_rfl)) (ars_c rfl (ar_v 2 rfl (.inl (by kernel_rfl)) (by kernel_rfl)) (ars_c rfl (ar_v 8 rfl (.inr (.inl (by kernel_rfl))) (by kernel_rfl)) (ars_nil))))) (se_tup (sa_c rfl (SQ.se (sq_str)) (sa_c rfl (SQ.se (sq_non)) (sa_nil)))) rfl) (st_cmp (opx_ne hu) (SO.se (so_callG gd (ok__law_made T) hr (by decide) (gl_of (by kernel_rfl)) (ars_c rfl (ar_v 8 rfl (.inr (.inl (by kernel_rfl))) (by kernel_rfl)) (ars_c rfl (ar_val (SQ.se (sq_non))) (ars_nil))))) (se_tup (sa_c rfl (SQ.se (sq_str)) (sa_c rfl (se_cb (cx_repr gd hu) (gl_of (by kernel_rfl)) (T.free _ (by decide)) rfl (sa_c rfl (SQ.se (sq_v 8 rfl (.inr (.inl (by kernel_rfl))) (by kernel_rfl))) (sa_nil))) (sa_nil)))) rfl)) (sss_one (ss_ret (SE.so (SQ.se (sq_bl))))) (sss_nil)))) (sss_cons (ss_set (i := 9) (se_bin opx_add (SO.se (so_comp (ow := [("_law_k", 13)]) rfl nd (si_range2 (gl_of (by kernel_rfl)) (T.free _ (by decide)) (SQ.se (sq_int)) (SQ.se (sq_int))) (blkOk_of (by kernel_rfl)) (fun s H C cl fp => sw_name (i := 13) (by decide) nd rfl (.inl (by kernel_rfl)) (.inr (by kernel_rfl))) (fun s H C cl fp => sf_nil) (fun s H C cl fp => se_tup (sa_c rfl (se_bin opx_mul (SQ.se (sq_str)) (SQ.se (sq_v 13 rfl (.inl (by kernel_rfl)) (by kernel_rfl)))) (sa_c rfl (se_tup (sa_nil)) (sa_nil)))))) (SO.se (so_comp (ow := [("_law_k", 13)]) rfl nd (si_range2 (gl_of (by kernel_rfl)) (T.free _ (by decide)) (SQ.se (sq_int)) (SQ.se (sq_int))) (blkOk_of (by kernel_rfl)) (fun s H C cl fp => sw_name (i := 13) (by decide) nd rfl (.inl (by kernel_rfl)) (.inr (by kernel_rfl))) (fun s H C cl fp => sf_nil) (fun s H C cl fp => se_tup (sa_c rfl (se_bin opx_mul (SQ.se (sq_str)) (SQ.se (sq_v 13 rfl (.inl (by kernel_rfl)) (by kernel_rfl)))) (sa_c rfl (se_tup (sa_nil)) (sa_nil))))))) nd rfl (.inl (by kernel_rfl))) (sss_cons (ss_if (st_or2 (st_cmp (opx_ne hu) (SO.se (so_callG gd (ok__law_made T) hr (by decide) (gl_of (by kernel_rfl)) (ars_c rfl (ar_v 2 rfl (.inl (by kernel_rfl)) (by kernel_rfl)) (ars_c rfl (ar_v 9 rfl (.inl (by kernel_rfl)) (by kernel_rfl)) (ars_nil))))) (se_tup (sa_c rfl (SQ.se (sq_str)) (sa_c rfl (SQ.se (sq_non)) (sa_nil)))) rfl) (st_cmp (opx_ne hu) (se_ix hu (SO.se (so_callG gd (ok__law_made T) hr (by decide) (gl_of (by kernel_rfl)) (ars_c rfl (ar_v 2 rfl (.inl (by kernel_rfl)) (by kernel_rfl)) (ars_c rfl (ar_val (se_slH (SQ.se (sq_v 9 rfl (.inl (by kernel_rfl)) (by kernel_rfl))) (SQ.se (sq_int)))) (ars_nil))))) (SQ.se (sq_int))) (SQ.se (sq_str)) rfl)) (sss_one (ss_ret (SE.so (SQ.se (sq_bl))))) (sss_nil)) (sss_cons (ss_seto (i := 8) (so_call (ok__law_one T) hr (by decide) (gl_of (by kernel_rfl)) (ars_c rfl (ar_v 0 rfl (.inl (by kernel_rfl)) (by kernel_rfl)) (ars_c rfl (ar_val (se_lst (sa_c rfl (SQ.se (sq_non)) (sa_c rfl (SQ.se (sq_int)) (sa_c rfl (SQ.se (sq_str)) (sa_c rfl (se_tup (sa_c rfl (SQ.se (sq_str)) (sa_nil))) (sa_c rfl (se_lst (sa_c rfl (se_tup (sa_c rfl (SQ.se (sq_str)) (sa_c rfl (se_tup (sa_c rfl (SQ.se (sq_str)) (sa_c rfl (SQ.se (sq_str)) (sa_nil)))) (sa_nil)))) (sa_nil))) (sa_c rfl (se_tup (sa_c rfl (se_tup (sa_c rfl (SQ.se (sq_str)) (sa_c rfl (se_tup (sa_c rfl (SQ.se (sq_str)) (sa_c rfl (SQ.se (sq_str)) (sa_nil)))) (sa_nil)))) (sa_nil))) (sa_nil))))))))) (ars_nil)))) nd rfl (.inr (by kernel_rfl))) (sss_cons (ss_set (i := 10) (se_lst (sa_c rfl (SQ.se (sq_str)) (sa_c rfl (SQ.se (sq_str)) (sa_c rfl (SQ.se (sq_str)) (sa_c rfl (SQ.se (sq_str)) (sa_nil)))))) nd rfl (.inr (by kernel_rfl))) (sss_one (ss_ret (SE.so (se_cmp (opx_eq hu) (SO.se (so_comp (ow := [("_law_way", 14)]) rfl nd (si_range1 (gl_of (by kernel_rfl)) (T.free _ (by decide)) (SQ.se (sq_int))) (blkOk_of (by kernel_rfl)) (fun s H C cl fp => sw_name (i := 14) (by decide) nd rfl (.inl (by kernel_rfl)) (.inr (by kernel_rfl))) (fun s H C cl fp => sf_one (st_cmp (opx_ne hu) (SO.se (so_callG gd (ok__law_other T) hr (by decide) (gl_of (by kernel_rfl)) (ars_c rfl (ar_v 14 rfl (.inl (by kernel_rfl)) (by kernel_rfl)) (ars_c rfl (ar_v 1 rfl (.inr (.inl (by kernel_rfl))) (by kernel_rfl)) (ars_c rfl (ar_v 8 rfl (.inr (.inl (by kernel_rfl))) (by kernel_rfl)) (ars_nil)))))) (se_tup (sa_c rfl (SQ.se (sq_ix hu (sq_v 10 rfl (.inr (.inl (by kernel_rfl))) (by kernel_rfl)) (sq_v 14 rfl (.inl (by kernel_rfl)) (by kernel_rfl)))) (sa_c rfl (se_cb (cx_repr gd hu) (gl_of (by kernel_rfl)) (T.free _ (by decide)) rfl (sa_c rfl (SQ.se (sq_v 8 rfl (.inr (.inl (by kernel_rfl))) (by kernel_rfl))) (sa_nil))) (sa_nil)))) rfl)) (fun s H C cl fp => SQ.se (sq_v 14 rfl (.inl (by kernel_rfl)) (by kernel_rfl))))) (se_lst (sa_nil)) rfl))))))))))))
theorem ok__law_refused (T : Tx w K mg) : FnG P w K mg base 12 "_law_refused" 5 d__law_refused := (okf__law_refused T).fn' T.g__law_refused
theorem sc_law : FnScope ["_law_script", "_law_k", "_law_source", "_law_pairs_here", "_law_boxes", "_law_parts_here", "_law_program", "_law_others", "_law_dues", "_law_row", "_law_made_here", "_law_name", "_law_acts", "_law_one_here", "_law_kind_here", "_law_step_here"] ["_law_script"] (defScope st_law) := ⟨rfl, rfl, rfl, by decide +kernel, rfl, by decide +kernel, by decide +kernel⟩
theorem okf_law (T : Tx w K mg) : OkFG P w K mg base 13 D_law 1 d_law := by
  refine .mk' (j := 12) T.fn_law sc_law (fun _ _ _ _ _ _ us hl => match us, hl with | [_], _ => rfl) fun cdv A outer s H E gd hr => ?_
  have nd := sc_law.nd
  have hu := DL.Room.u100 hr
  exact sss_cons (ss_for rfl rfl rfl (SO.se (so_call (ok__law_rounds T) hr (by decide) (gl_of (by kernel_rfl)) (ars_c rfl (ar_v 0 rfl (.inl (by kernel_rfl)) (by kernel_rfl)) (ars_c rfl (ar_val (SQ.se (sq_int))) (ars_nil))))) (sg_name (i := 1) nd rfl (.inl (by kernel_rfl))) (sss_cons (ss_seto (i := 2) (so_call (ok__law_pool T) hr (by decide) (gl_of (by kernel_rfl)) (ars_c rfl (ar_v 0 rfl (.inl (by kernel_rfl)) (by kernel_rfl)) (ars_c rfl (ar_v 1 rfl (.inl (by kernel_rfl)) (by kernel_rfl)) (ars_nil)))) nd rfl (.inr (by kernel_rfl))) (sss_cons (ss_seto (i := 3) (so_call (ok__law_pairs T) hr (by decide) (gl_of (by kernel_rfl)) (ars_c rfl (ar_v 2 rfl (.inr (.inl (by kernel_rfl))) (by kernel_rfl)) (ars_c rfl (ar_val (SQ.se (sq_int))) (ars_nil)))) nd rfl (.inl (by kernel_rfl))) (sss_cons (ss_par (i := 4) (j := 5) rfl nd rfl rfl (by decide) (by kernel_rfl) (by kernel_rfl) (sa_c rfl (SO.se (so_make (mkr_Boxes T) hr (by decide) (gl_of (by kernel_rfl)) (ars_c rfl (ar_v 3 rfl (.inl (by kernel_rfl)) (by kernel_rfl)) (ars_nil)))) (sa_c rfl (SO.se (so_call (ok__law_parts T) hr (by decide) (gl_of (by kernel_rfl)) (ars_c rfl (ar_v 2 rfl (.inr (.inl (by kernel_rfl))) (by kernel_rfl)) (ars_c rfl (ar_v 3 rfl (.inl (by kernel_rfl)) (by kernel_rfl)) (ars_c rfl (ar_val (SQ.se (sq_int))) (ars_nil)))))) (sa_nil)))) (sss_cons (ss_set (i := 6) (SO.se (so_make (mkr_Program T) hr (by decide) (gl_of (by kernel_rfl)) (ars_c rfl (ar_v 4 rfl (.inl (by kernel_rfl)) (by kernel_rfl)) (ars_c rfl (ar_val (SO.se (so_call (ok__law_one T) hr (by decide) (gl_of (by kernel_rfl)) (ars_c rfl (ar_v 2 rfl (.inr (.inl (by kernel_rfl))) (by kernel_rfl)) (ars_c rfl (ar_val (se_lst (sa_c rfl (SQ.se (sq_v 5 rfl (.inl (by kernel_rfl)) (by kernel_rfl))) (sa_c rfl (se_cty1 (ct_list rfl) (gl_of (by kernel_rfl)) (T.free _ (by decide)) rfl (SQ.sr (sq_v 5 rfl (.inl (by kernel_rfl)) (by kernel_rfl)))) (sa_nil))))) (ars_nil)))))) (ars_nil))))) nd rfl (.inr (by kernel_rfl))) (sss_cons (ss_if (st_or3 (st_cmp (OpX.or (OpX.or (opx_ne hu) (opx_neT T.eq_Boxes (eqc_Boxes T) (hr.mono (by decide)) T.ne_Boxes.1 T.ne_Boxes.2)) (opx_neT T.eq_Program (eqc_Program T) (hr.mono (by decide)) T.ne_Program.1 T.ne_Program.2)) (SO.se (so_meth0 (mt_Program_parts T) hr (by decide) (ar_v 6 rfl (.inr (.inl (by kernel_rfl))) (by kernel_rfl)))) (SQ.se (sq_v 5 rfl (.inl (by kernel_rfl)) (by kernel_rfl))) rfl) (st_cmp (OpX.or (OpX.or (opx_ne hu) (opx_neT T.eq_Boxes (eqc_Boxes T) (hr.mono (by decide)) T.ne_Boxes.1 T.ne_Boxes.2)) (opx_neT T.eq_Program (eqc_Program T) (hr.mono (by decide)) T.ne_Program.1 T.ne_Program.2)) (SO.se (so_meth0 (mt_Program_boxes T) hr (by decide) (ar_v 6 rfl (.inr (.inl (by kernel_rfl))) (by kernel_rfl)))) (SQ.se (sq_v 4 rfl (.inl (by kernel_rfl)) (by kernel_rfl))) rfl) (st_cmp (OpX.or (OpX.or (opx_ne hu) (opx_neT T.eq_Boxes (eqc_Boxes T) (hr.mono (by decide)) T.ne_Boxes.1 T.ne_Boxes.2)) (opx_neT T.eq_Program (eqc_Program T) (hr.mono (by decide)) T.ne_Program.1 T.ne_Program.2)) (SO.se (so_meth0 (mt_Program_names T) hr (by decide) (ar_v 6 rfl (.inr (.inl (by kernel_rfl))) (by kernel_rfl)))) (SO.se (so_comp (ow := [("_law_name", 11), ("_law_acts", 12)]) rfl nd (si_seq (SQ.se (sq_v 5 rfl (.inl (by kernel_rfl)) (by kernel_rfl)))) (blkOk_of (by kernel_rfl)) (fun s H C cl fp => sw_tup rfl (sws_cons (sw_name (i := 11) (by decide) nd rfl (.inl (by kernel_rfl)) (.inr (by kernel_rfl))) (sws_cons (sw_name (i := 12) (by decide) nd rfl (.inl (by kernel_rfl)) (.inr (by kernel_rfl))) (sws_nil)))) (fun s H C cl fp => sf_nil) (fun s H C cl fp => SQ.se (sq_v 11 rfl (.inl (by kernel_rfl)) (by kernel_rfl))))) rfl)) (sss_one (ss_ret (SE.so (SQ.se (sq_bl))))) (sss_nil)) (sss_cons (ss_if (st_cmp (OpX.or (OpX.or (opx_ne hu) (opx_neT T.eq_Boxes (eqc_Boxes T) (hr.mono (by decide)) T.ne_Boxes.1 T.ne_Boxes.2)) (opx_neT T.eq_Program (eqc_Program T) (hr.mono (by decide)) T.ne_Program.1 T.ne_Program.2)) (SO.se (so_comp (ow := [("_law_name", 11), ("_law_acts", 12)]) rfl nd (si_seq (SQ.se (sq_v 5 rfl (.inl (by kernel_rfl)) (by kernel_rfl)))) (blkOk_of (by kernel_rfl)) (fun s H C cl fp => sw_tup rfl (sws_cons (sw_name (i := 11) (by decide) nd rfl (.inl (by kernel_rfl)) (.inr (by kernel_rfl))) (sws_cons (sw_name (i := 12) (by decide) nd rfl (.inl (by kernel_rfl)) (.inr (by kernel_rfl))) (sws_nil)))) (fun s H C cl fp => sf_one (st_cmp (OpX.or (OpX.or (opx_ne hu) (opx_neT T.eq_Boxes (eqc_Boxes T) (hr.mono (by decide)) T.ne_Boxes.1 T.ne_Boxes.2)) (opx_neT T.eq_Program (eqc_Program T) (hr.mono (by decide)) T.ne_Program.1 T.ne_Program.2)) (SO.se (so_meth (mt_Program_acts_of T) hr (by decide) (ar_v 6 rfl (.inr (.inl (by kernel_rfl))) (by kernel_rfl)) (ars_c rfl (ar_v 11 rfl (.inl (by kernel_rfl)) (by kernel_rfl)) (ars_nil)))) (SQ.se (sq_v 12 rfl (.inl (by kernel_rfl)) (by kernel_rfl))) rfl)) (fun s H C cl fp => SQ.se (sq_v 11 rfl (.inl (by kernel_rfl)) (by kernel_rfl))))) (se_lst (sa_nil)) rfl) (sss_one (ss_ret (SE.so (SQ.se (sq_bl))))) (sss_nil)) (sss_cons (ss_seto (i := 7) (so_lst (sa_c rfl (SO.se (so_make (mkr_Program T) hr (by decide) (gl_of (by kernel_rfl)) (ars_c rfl (ar_v 4 rfl (.inl (by kernel_rfl)) (by kernel_rfl)) (ars_c rfl (ar_v 5 rfl (.inl (by kernel_rfl)) (by kernel_rfl)) (ars_nil))))) (sa_c rfl (SO.se (so_make (mkr_Program T) hr (by decide) (gl_of (by kernel_rfl)) (ars_c rfl (ar_v 4 rfl (.inl (by kernel_rfl)) (by kernel_rfl)) (ars_c rfl (ar_val (se_bin opx_add (se_slH (SQ.se (sq_v 5 rfl (.inl (by kernel_rfl)) (by kernel_rfl))) (se_neg (SQ.se (sq_int)))) (se_tup (sa_c rfl (se_tup (sa_c rfl (SQ.se (sq_str)) (sa_c rfl (se_tup (sa_nil)) (sa_nil)))) (sa_nil))))) (ars_nil))))) (sa_nil)))) nd rfl (.inl (by kernel_rfl))) (sss_cons (ss_app (i := 7) (SO.se (so_make (mkr_Program T) hr (by decide) (gl_of (by kernel_rfl)) (ars_c rfl (ar_v 4 rfl (.inl (by kernel_rfl)) (by kernel_rfl)) (ars_c rfl (ar_val (se_bin opx_add (se_tup (sa_c rfl (se_tup (sa_c rfl (SQ.se (sq_str)) (sa_c rfl (se_tup (sa_nil)) (sa_nil)))) (sa_nil))) (SQ.se (sq_v 5 rfl (.inl (by kernel_rfl)) (by kernel_rfl))))) (ars_nil))))) rfl (.inl (by kernel_rfl))) (sss_cons (ss_app (i := 7) (SO.se (so_make (mkr_Program T) hr (by decide) (gl_of (by kernel_rfl)) (ars_c rfl (ar_val (SO.se (so_make (mkr_Boxes T) hr (by decide) (gl_of (by kernel_rfl)) (ars_c rfl (ar_val (se_bin opx_add (SQ.se (sq_v 3 rfl (.inl (by kernel_rfl)) (by kernel_rfl))) (se_tup (sa_c rfl (se_tup (sa_c rfl (SQ.se (sq_str)) (sa_c rfl (se_tup (sa_c rfl (SQ.se (sq_str)) (sa_nil))) (sa_nil)))) (sa_nil))))) (ars_nil))))) (ars_c rfl (ar_v 5 rfl (.inl (by kernel_rfl)) (by kernel_rfl)) (ars_nil))))) rfl (.inl (by kernel_rfl))) (sss_cons (ss_app (i := 7) (SO.se (so_make (mkr_Program T) hr (by decide) (gl_of (by kernel_rfl)) (ars_c rfl (ar_val (SO.se (so_make (mkr_Boxes T) hr (by decide) (gl_of (by kernel_rfl)) (ars_c rfl (ar_val (se_rev (SQ.se (sq_v 3 rfl (.inl (by kernel_rfl)) (by kernel_rfl))) (se_neg (SQ.se (sq_int))))) (ars_nil))))) (ars_c rfl (ar_v 5 rfl (.inl (by kernel_rfl)) (by kernel_rfl)) (ars_nil))))) rfl (.inl (by kernel_rfl))) (sss_cons (ss_set (i := 8) (se_lst (sa_c rfl (SQ.se (sq_bl)) (sa_c rfl (se_cmp (OpX.or (OpX.or (opx_eq hu) (opx_eqT T.eq_Boxes (eqc_Boxes T) (hr.mono (by decide)))) (opx_eqT T.eq_Program (eqc_Program T) (hr.mono (by decide)))) (se_ix hu (SQ.se (sq_v 5 rfl (.inl (by kernel_rfl)) (by kernel_rfl))) (se_neg (SQ.se (sq_int)))) (se_tup (sa_c rfl (SQ.se (sq_str)) (sa_c rfl (se_tup (sa_nil)) (sa_nil)))) rfl) (sa_c rfl (SQ.se (sq_bl)) (sa_c rfl (SQ.se (sq_bl)) (sa_c rfl (se_cmp (OpX.or (OpX.or (opx_eq hu) (opx_eqT T.eq_Boxes (eqc_Boxes T) (hr.mono (by decide)))) (opx_eqT T.eq_Program (eqc_Program T) (hr.mono (by decide)))) (se_cb1 ct_len (gl_of (by kernel_rfl)) (T.free _ (by decide)) rfl (SQ.sr (sq_v 3 rfl (.inl (by kernel_rfl)) (by kernel_rfl)))) (SQ.se (sq_int)) rfl) (sa_nil))))))) nd rfl (.inl (by kernel_rfl))) (sss_cons (ss_if (st_or2 (st_cmp (OpX.or (OpX.or (opx_ne hu) (opx_neT T.eq_Boxes (eqc_Boxes T) (hr.mono (by decide)) T.ne_Boxes.1 T.ne_Boxes.2)) (opx_neT T.eq_Program (eqc_Program T) (hr.mono (by decide)) T.ne_Program.1 T.ne_Program.2)) (SO.se (so_comp (ow := [("_law_one_here", 13)]) rfl nd (si_v 7 rfl (.inl (by kernel_rfl)) (by kernel_rfl)) (blkOk_of (by kernel_rfl)) (fun s H C cl fp => sw_name (i := 13) (by decide) nd rfl (.inl (by kernel_rfl)) (.inr (by kernel_rfl))) (fun s H C cl fp => sf_nil) (fun s H C cl fp => se_cmp (OpX.or (OpX.or (opx_eq hu) (opx_eqT T.eq_Boxes (eqc_Boxes T) (hr.mono (by decide)))) (opx_eqT T.eq_Program (eqc_Program T) (hr.mono (by decide)))) (SQ.se (sq_v 6 rfl (.inr (.inl (by kernel_rfl))) (by kernel_rfl))) (SQ.se (sq_v 13 rfl (.inl (by kernel_rfl)) (by kernel_rfl))) rfl))) (SQ.se (sq_v 8 rfl (.inl (by kernel_rfl)) (by kernel_rfl))) rfl) (st_cmp (OpX.or (OpX.or (opx_eq hu) (opx_eqT T.eq_Boxes (eqc_Boxes T) (hr.mono (by decide)))) (opx_eqT T.eq_Program (eqc_Program T) (hr.mono (by decide)))) (SQ.se (sq_v 6 rfl (.inr (.inl (by kernel_rfl))) (by kernel_rfl))) (SQ.se (sq_v 5 rfl (.inl (by kernel_rfl)) (by kernel_rfl))) rfl)) (sss_one (ss_ret (SE.so (SQ.se (sq_bl))))) (sss_nil)) (sss_cons (ss_set (i := 9) (se_cty1 ct_tuple (gl_of (by kernel_rfl)) (T.free _ (by decide)) rfl (SE.sr (SO.se (so_comp (ow := [("_law_name", 11), ("_law_kind_here", 14)]) rfl nd (si_seq (SQ.se (sq_v 3 rfl (.inl (by kernel_rfl)) (by kernel_rfl)))) (blkOk_of (by kernel_rfl)) (fun s H C cl fp => sw_tup rfl (sws_cons (sw_name (i := 11) (by decide) nd rfl (.inl (by kernel_rfl)) (.inr (by kernel_rfl))) (sws_cons (sw_name (i := 14) (by decide) nd rfl (.inl (by kernel_rfl)) (.inr (by kernel_rfl))) (sws_nil)))) (fun s H C cl fp => sf_nil) (fun s H C cl fp => se_tup (sa_c rfl (SQ.se (sq_v 11 rfl (.inl (by kernel_rfl)) (by kernel_rfl))) (sa_c rfl (SO.se (so_call (ok__law_step T) hr (by decide) (gl_of (by kernel_rfl)) (ars_c rfl (ar_v 2 rfl (.inr (.inl (by kernel_rfl))) (by kernel_rfl)) (ars_c rfl (ar_v 14 rfl (.inl (by kernel_rfl)) (by kernel_rfl)) (ars_c rfl (ar_val (se_lst (sa_c rfl (SQ.se (sq_str)) (sa_nil)))) (ars_nil)))))) (sa_nil)))))))) nd rfl (.inl (by kernel_rfl))) (sss_cons (ss_set (i := 10) (SO.se (so_static (sm_Program_from_row T) hr (by decide) (gl_of (by kernel_rfl)) (ars_c rfl (ar_v 4 rfl (.inl (by kernel_rfl)) (by kernel_rfl)) (ars_c rfl (ar_v 9 rfl (.inl (by kernel_rfl)) (by kernel_rfl)) (ars_nil))))) nd rfl (.inl (by kernel_rfl))) (sss_cons (ss_if (st_or2 (st_cmp (OpX.or (OpX.or (opx_ne hu) (opx_neT T.eq_Boxes (eqc_Boxes T) (hr.mono (by decide)) T.ne_Boxes.1 T.ne_Boxes.2)) (opx_neT T.eq_Program (eqc_Program T) (hr.mono (by decide)) T.ne_Program.1 T.ne_Program.2)) (SO.se (so_meth0 (mt_Program_parts T) hr (by decide) (ar_v 10 rfl (.inl (by kernel_rfl)) (by kernel_rfl)))) (se_tup (sa_c rfl (se_tup (sa_c rfl (SQ.se (sq_str)) (sa_c rfl (se_cty1 ct_tuple (gl_of (by kernel_rfl)) (T.free _ (by decide)) rfl (SE.sr (SO.se (so_comp (ow := [("_law_step_here", 15)]) rfl nd (si_seq (SQ.se (sq_v 9 rfl (.inl (by kernel_rfl)) (by kernel_rfl)))) (blkOk_of (by kernel_rfl)) (fun s H C cl fp => sw_name (i := 15) (by decide) nd rfl (.inl (by kernel_rfl)) (.inr (by kernel_rfl))) (fun s H C cl fp => sf_nil) (fun s H C cl fp => se_bin opx_add (se_tup (sa_c rfl (SQ.se (sq_str)) (sa_nil))) (SQ.se (sq_v 15 rfl (.inl (by kernel_rfl)) (by kernel_rfl)))))))) (sa_nil)))) (sa_nil))) rfl) (st_cmp (OpX.or (OpX.or (opx_ne hu) (opx_neT T.eq_Boxes (eqc_Boxes T) (hr.mono (by decide)) T.ne_Boxes.1 T.ne_Boxes.2)) (opx_neT T.eq_Program (eqc_Program T) (hr.mono (by decide)) T.ne_Program.1 T.ne_Program.2)) (SO.se (so_meth0 (mt_Program_names T) hr (by decide) (ar_v 10 rfl (.inl (by kernel_rfl)) (by kernel_rfl)))) (se_lst (sa_c rfl (SQ.se (sq_str)) (sa_nil))) rfl)) (sss_one (ss_ret (SE.so (SQ.se (sq_bl))))) (sss_nil)) (sss_one (ss_if (st_not (st_val (SO.se (so_callG gd (ok__law_refused T) hr (by decide) (gl_of (by kernel_rfl)) (ars_c rfl (ar_v 2 rfl (.inr (.inl (by kernel_rfl))) (by kernel_rfl)) (ars_c rfl (ar_v 6 rfl (.inr (.inl (by kernel_rfl))) (by kernel_rfl)) (ars_c rfl (ar_v 4 rfl (.inl (by kernel_rfl)) (by kernel_rfl)) (ars_c rfl (ar_v 3 rfl (.inl (by kernel_rfl)) (by kernel_rfl)) (ars_c rfl (ar_v 5 rfl (.inl (by kernel_rfl)) (by kernel_rfl)) (ars_nil)))))))))) (sss_one (ss_ret (SE.so (SQ.se (sq_bl))))) (sss_nil))))))))))))))))))) (sss_one (ss_ret (SE.so (SQ.se (sq_bl)))))
theorem ok_law (T : Tx w K mg) : FnG P w K mg base 13 "law" 1 d_law := (okf_law T).fn' T.g_law
end
end K84

end
set_option maxRecDepth 100000
set_option maxHeartbeats 1000000
/-! x + e as a list of one's own -/
namespace DL
open PySem PySem.Spec L2
open PyProof.Rows hiding St
section
variable {X : Cx} {o : Orig} {σ : L2.St} {H G : Hp} {own : Own} {ρ : Env} {np : Nat}
variable {e a b ie tst : Expr} {m : MO} {me ma mb : ME} {pos pos' p : Pos} {x : Str}
def rCatR (x y : V) (H : Hp) (Q : VK) : Prop := ∃ l b xs zs, x = .ref l ∧ y = .ref b ∧ Rd H l (.lst xs) ∧ Rd H b (.lst zs) ∧ xs.length + zs.length ≤ sizeLine ∧ ∀ p, H p = none → Q (.ref p) (upd H p (.lst (xs ++ zs)))
/-- x + e, a new list of one's own (x: a slot's list) -/
def mAddV (i : Nat) (mb : ME) : MO := fun ρ => match qVar i ρ with
  | some _ => (mb ρ).bind fun y ρ1 => match qVar i ρ1, y with
    | some (.lst l), .lst m => if l.length + m.length ≤ sizeLine then .ok (.lst (l ++ m)) ρ1 else .bad
    | some (.v (.lst l)), .lst m => if l.length + m.length ≤ sizeLine then .ok (.lst (l ++ m)) ρ1 else .bad
    | _, _ => .bad
  | none => .bad
theorem so_addV (i : Nat) (hN : X.N[i]? = some x) (hv : Vis X.env.scope x) (hb : SE X b mb) (hd : (x == ("__debug__" : Str)) = false := by decide) (hcd : (x == ("__classdict__" : Str)) = false := by decide) : SO X (.BinOp (.Name x p) .Add b pos) (mAddV i mb) := SO.of fun o σ H G own ρ c nb =>
  ⟨_, pe_op (X := Cx.to X o _) op_catR (pe_var (X := Cx.to X o _) hN hv hd hcd) pe_w, by
    unfold mAddV at nb
    cases e0 : qVar i ρ with
    | none => rw [e0] at nb; exact absurd rfl nb
    | some c0 =>
      obtain ⟨w, k1, k2⟩ := c.er i _ (qVar_some e0)
      refine ⟨w, k1, ?_⟩
      have em : mAddV i mb ρ = (mb ρ).bind fun y ρ1 => match qVar i ρ1, y with
        | some (.lst l), .lst m => if l.length + m.length ≤ sizeLine then .ok (.lst (l ++ m)) ρ1 else .bad
        | some (.v (.lst l)), .lst m => if l.length + m.length ≤ sizeLine then .ok (.lst (l ++ m)) ρ1 else .bad
        | _, _ => .bad := by unfold mAddV; rw [e0]
      rw [e0] at nb
      dsimp only at nb
      rw [em]
      refine hb.we c (R.bind_nb nb) Xle.bind fun y ρ1 v H1 G1 own1 e1 c1 x1 r1 => ?_
      rw [e1, R.bind_ok] at nb ⊢
      have fin : ∀ (l m : List D) (ad : Addr) (xs : List V), w = .ref ad → Rd H1 ad (.lst xs) → RVs X.K G1 l xs → RV X.K G1 (.lst m) v → (if l.length + m.length ≤ sizeLine then R.ok (C.lst (l ++ m)) ρ1 else .bad) ≠ .bad →
          rCatR w v H1 (OkO X.K o σ G (if l.length + m.length ≤ sizeLine then R.ok (C.lst (l ++ m)) ρ1 else .bad)) := fun l m ad xs ew hr hx hv nb => by
        by_cases hz : l.length + m.length ≤ sizeLine
        · rw [if_pos hz]
          obtain ⟨b2, ys, rfl, hb2, hys⟩ := hv.lst_inv
          have l1 := hx.length
          have l2 := hys.length
          exact ⟨ad, b2, xs, ys, ew, rfl, hr, c1.good.rd _ _ hb2, by omega, fun p hp => ⟨_, ρ1, G1, _, rfl, c1.owned hp (none, none), x1, p, _, rfl, upd_same, mark_same, hx.append hys⟩⟩
        · rw [if_neg hz] at nb; exact absurd rfl nb
      cases e3 : qVar i ρ1 with
      | none => rw [e3] at nb; exact absurd rfl nb
      | some c3 =>
        rw [e3] at nb
        obtain ⟨w', j3, j4⟩ := c1.er i _ (qVar_some e3)
        rw [k1] at j3
        cases j3
        cases c3 with
        | lst l =>
          cases y with
          | lst m =>
            obtain ⟨ad, xs, rfl, q1, q2, q3⟩ := j4
            exact fin l m ad xs rfl (.of q1) q3 r1 nb
          | _ => exact absurd rfl nb
        | v d =>
          cases d with
          | lst l =>
            cases y with
            | lst m =>
              obtain ⟨ad, xs, rfl, q1, q2⟩ := RV.lst_inv (K := X.K) (G := G1) j4
              exact fin l m ad xs rfl (c1.good.rd _ _ q1) q2 r1 nb
            | _ => exact absurd rfl nb
          | _ => cases y <;> exact absurd rfl nb
        | dic _ _ => exact absurd rfl nb
        | ins _ _ _ => exact absurd rfl nb⟩
end
/-! ### l * n -/
theorem op_repR {X : Cx} : OpR X (binaryOp .Mult) (fun x y H Q => ∃ l k xs, x = .ref l ∧ y = .int k ∧ Rd H l (.lst xs) ∧ 0 ≤ k ∧ k < 2 ^ 63 ∧ xs.length * k.toNat ≤ sizeLine ∧ ∀ p, H p = none → Q (.ref p) (upd H p (.lst (List.replicate k.toNat xs).flatten))) := by
  intro pins s σ H x y v u Q I rx ry h
  obtain ⟨l, k, xs, rfl, rfl, hH, h1, h2, hz, q⟩ := h
  cases rx
  obtain ⟨t, rfl⟩ := ry
  obtain ⟨z, its, n, r, e⟩ := hH.ok I.hok
  have hl := r.length
  have len : its.toArray.size * k.toNat ≤ sizeLine := by rw [List.size_toArray, ← hl]; exact hz
  have cap : ¬ its.toArray.size * k.toNat > (2 ^ 63 - 1) / 8 := by
    have : (sizeLine : Nat) ≤ (2 ^ 63 - 1) / 8 := by decide
    omega
  have fit : ¬ (!Builtin.List.listFitsIndex k) = true := by rw [fitsIndex_both (by omega) h2]; exact Bool.false_ne_true
  have long : ¬ Builtin.List.listTooLong (its.toArray.size * k.toNat) = true := by rw [notLongL len]; exact Bool.false_ne_true
  have new : List.foldl (fun x1 x2 => x1 ++ x2) #[] (List.replicate (if its.toArray.isEmpty = true then 0 else k.toNat) its.toArray) = (List.replicate k.toNat its).flatten.toArray := by
    have f0 : ∀ m : Nat, List.foldl (fun x1 x2 => x1 ++ x2) #[] (List.replicate m its.toArray) = (List.replicate m its).flatten.toArray := fun m => by
      have := foldl_rep its m []
      rwa [List.nil_append] at this
    rw [f0]
    cases its with
    | nil => simp
    | cons a r' => rw [if_neg (by simp)]
  refine wpAny_binaryOp_repeat_ref (T := "list") (U := "int") (by decide) ⟨_, e, rfl⟩ (fun s' => typeIs_int s' k t) noFill_list_mul F.fills_int_mul F.slot_int_rmul repeat_list F.slot_int_index.lookup
    (call_meets F.slot_int_rmul (typeIs_int s k t) F.entry_int_rmul (F.args_int_rmul_2 _ _) (int___rmul___int_list k t l its.toArray n)
      ⟨e, rfl, ⟨_, e, rfl⟩, call_meets F.slot_list_mul ⟨_, e, rfl⟩ F.entry_list_mul (F.args_list_mul_2 _ _) (AutoListH.list___mul___list_int_3 l its.toArray n k t fit cap long) ⟨e, ?_⟩⟩)
  rw [new]
  exact ⟨.ref _, _, I.lnew (t' := s.toks) (r.rep k.toNat) (by rw [PyProof.Rows.lm_len_rep_flat, Nat.mul_comm]; exact hz), rfl, q _ I.fresh⟩
def mulL : D → D → Option D
  | .lst l, .int k => if 0 ≤ k ∧ k ≤ 1000 ∧ l.length ≤ 10000 then some (.lst (List.replicate k.toNat l).flatten) else none
  | x, y => mulD x y
theorem mulL_else {x y : D} (h : ∀ l k, x = .lst l → y = .int k → False) : mulL x y = mulD x y := by
  unfold mulL
  split
  · exact (h _ _ rfl rfl).elim
  · rfl
section
variable {X : Cx}
theorem opx_mulL : OpX X (binaryOp .Mult) mulL := by
  intro E o σ H G own ρ dx dy d x y c hx hy h
  unfold mulL at h
  split at h
  · rename_i l0 k0
    split at h
    · rename_i hz
      cases h
      obtain ⟨a, xs, rfl, ha, hxs⟩ := hx.lst_inv
      obtain rfl := hy.int_inv
      have e1 := hxs.length
      obtain ⟨z1, z2, z3⟩ := hz
      refine ⟨_, op_repR (X := X.wish E), a, _, xs, rfl, rfl, c.good.rd _ _ ha, z1, by omega, ?_, fun p hp => okd_lst c (hxs.flat _) hp⟩
      rw [sizeLine_eq, ← e1]
      have := Nat.mul_le_mul z3 (show k0.toNat ≤ 1000 by omega)
      omega
    · cases h
  · exact opx_mul E o σ H G own ρ _ _ d x y c hx hy h
end
/-! ### // by a larger number -/
def CDivB (i j : Int) : Prop := 0 < j ∧ j < 2 ^ 1000
instance {i j : Int} : Decidable (CDivB i j) := by unfold CDivB; infer_instance
theorem op_fdivB {X : Cx} : OpR X (binaryOp .FloorDiv) (rI CDivB fun i j => .int (i / j)) := opI fun i j _ _ _ _ _ hc q => by
  have h1 : (0 : Int) < j := hc.1
  have h2 : j < 2 ^ 1000 := hc.2
  refine floordiv_int (by omega) (by rw [Int.fdiv_eq_ediv_of_nonneg i (by omega)]; exact q) (.inl (PyProof.noPylong_of_log2 ?_))
  have h3 : j.natAbs < 2 ^ 1000 := by
    have : ((j.natAbs : Nat) : Int) = j := Int.natAbs_of_nonneg (by omega)
    have h4 : ((j.natAbs : Nat) : Int) < ((2 ^ 1000 : Nat) : Int) := by rw [this]; exact_mod_cast h2
    exact_mod_cast h4
  have h5 := (Nat.log2_lt (n := j.natAbs) (k := 1000) (by omega)).mpr h3
  omega
def divB : D → D → Option D
  | .int i, .int j => if CDivB i j then some (.int (i / j)) else none
  | _, _ => none
section
variable {X : Cx}
theorem opx_divB : OpX X (binaryOp .FloorDiv) divB := by
  intro E o σ H G own ρ dx dy d x y c hx hy h
  unfold divB at h
  split at h
  · split at h
    · rename_i hz
      cases h
      obtain rfl := hx.int_inv
      obtain rfl := hy.int_inv
      exact ⟨_, op_fdivB, _, _, rfl, rfl, hz, okd_pure c rv_int⟩
    · cases h
  · cases h
end
end DL

set_option maxRecDepth 100000
set_option maxHeartbeats 1000000
/-! dict(t) of a tuple of pairs -/
namespace DL
open PySem PySem.Spec L2
open PyProof.Rows hiding St
section
variable {X : Cx}
theorem kv_len {kvs : List (Key × V)} {prs : List (Key × Value)} (r : KV kvs prs) : kvs.length = prs.length := r.length
theorem call_dictT (hc : X.calm = true) : CallR X (.type "dict") (fun xs H Q => ∃ (a : Addr) (ps : List Addr) (kvs : List (Key × V)), xs = [.ref a] ∧ (∃ o its, o.dict = none ∧ (H a = some (.frz o (.tup its)) ∨ X.K.lookup a = some o) ∧ its = ps.map V.ref) ∧ SqT X.K H a (ps.map V.ref) ∧ Paired (fun p kv => SqT X.K H p [kV kv.1, kv.2]) ps kvs ∧
    ∀ p, H p = none → Q (.ref p) (upd H p (.dK (mergeK [] kvs)))) := by
  intro pins s σ H xs us Q I r q
  obtain ⟨a, ps, kvs, ex, ⟨o, its0, hd, hat, _⟩, hq, hp, q⟩ := q
  subst ex
  obtain ⟨u, eu, rx⟩ := vals1 r
  subst eu
  cases rx
  obtain ⟨its, rv, ⟨o2, ho, hcl, n, hdat⟩, hz⟩ := I.tuple hq
  have ei := refs_at rv
  subst ei
  rw [List.length_map] at hz
  have nd : o2.dict = none := by
    rcases hat with h | h
    · have h1 : s.heap.get? a = some o := (I.hok a _ h).1
      rw [ho] at h1
      cases h1
      exact hd
    · have h1 := I.kIn _ _ h
      rw [ho] at h1
      cases h1
      exact hd
  obtain ⟨prs, rel, hl, hpr⟩ := pairs_of I hp
  have hks : ∀ (j : Nat) (q : Key × Value), prs[j]? = some q → ∃ (b : Addr) (u : Value), ps[j]? = some b ∧ IsTup s.heap b #[u, q.2] ∧ keyIs q.1 u = true := hpr
  -- the pairs, by their addresses and their keys
  have hu : ∀ j : Nat, ∃ u : Value, ∀ q : Key × Value, prs[j]? = some q → IsTup s.heap ((ps[j]?).getD 0) #[u, q.2] ∧ keyIs q.1 u = true := fun j => by
    cases e : prs[j]? with
    | none => exact ⟨.none, fun q z => by cases z⟩
    | some q =>
      obtain ⟨b, u, e1, e2, e3⟩ := hks j q e
      exact ⟨u, fun q' z => by cases z; rw [e1]; exact ⟨e2, e3⟩⟩
  let uu : Nat → Value := fun j => Classical.choose (hu j)
  have huu : ∀ j (q : Key × Value), prs[j]? = some q → IsTup s.heap ((ps[j]?).getD 0) #[uu j, q.2] ∧ keyIs q.1 (uu j) = true := fun j => Classical.choose_spec (hu j)
  let pq : List (Value × Value) := prs.mapIdx fun j q => (uu j, q.2)
  have lpq : pq.length = prs.length := by simp [pq]
  refine PySem.call_dict_pairs (knd := mixKind X.prog X.w) (kvs := prs) (PairArg.tuple a (ps.map Value.ref).toArray (fun j => (ps[j]?).getD 0) pq) (I.ok.hd hc) ⟨⟨o2, n, ho, hcl, nd, hdat⟩, ?_, fun j k v e => ?_⟩ ⟨lpq.symm, fun i key v e => ?_⟩ (by rw [lpq, hl]; exact hz) fun h' tk hd' k => ?_
  · rw [lpq, hl]; simp
  · have e' : (prs.mapIdx fun j q => (uu j, q.2))[j]? = some (k, v) := e
    rw [List.getElem?_mapIdx] at e'
    obtain ⟨q', e1, e2⟩ := Option.map_eq_some_iff.mp e'
    cases e2
    obtain ⟨b, u', f1, f2, f3⟩ := hks j q' e1
    refine ⟨by simp [f1], .inl ?_⟩
    obtain ⟨g1, g2⟩ := huu j q' e1
    exact g1
  · have e' : (prs.mapIdx fun j q => (uu j, q.2))[i]? = some (key, v) := e
    rw [List.getElem?_mapIdx] at e'
    obtain ⟨q', e1, e2⟩ := Option.map_eq_some_iff.mp e'
    cases e2
    exact ⟨q'.1, e1, (huu i q' e1).2⟩
  · have hm : (s.heap.objs.size == sysModules) = false := beq_eq_false_iff_ne.mpr (Nat.ne_of_gt I.big)
    have hlen : (mergeK [] kvs).length ≤ sizeLine := by
      refine Nat.le_trans (length_mergeK kvs []) ?_
      rw [List.length_nil, Nat.zero_add, rel.length, hl]
      exact hz
    exact ⟨.ref s.heap.objs.size, upd H s.heap.objs.size (.dK (mergeK [] kvs)), I.laid (t' := tk) (fun b o e => k b o (by simp) e) (Nat.le_refl _) (show ObjOk X.prog X.w _ _ _ (.dK (mergeK [] kvs)) from ⟨hlen, hm, merged [] prs, KV.merge rel .nil, hd'⟩), rfl, q _ (I.hok.fresh (Nat.le_refl _))⟩
def dictP : D → Option D
  | .tup l => (pairsD l).map fun kds => .dic (mergeD kds ([], [])).1 (mergeD kds ([], [])).2
  | d => dictD d
theorem ct_dictP (hc : X.calm = true) : CallT X (.type "dict") dictP := by
  intro E o σ H G own ρ dx d v c hx h
  unfold dictP at h
  split at h
  · rename_i l
    obtain ⟨kds, e1, e2⟩ := Option.map_eq_some_iff.mp h
    subst e2
    obtain ⟨a, xs, rfl, h1, h2, h3⟩ := hx
    obtain ⟨ps, kvs, e3, p1, p2⟩ := pairs_rv c.good h2 e1
    subst e3
    refine ⟨_, call_dictT (X := X.wish E) hc, a, ps, kvs, rfl, ?_, h1, p1, fun p hp => okd_new c hp ?_⟩
    · rcases h3 with ⟨ob, hd, h4⟩ | ⟨ob, its, n, k1, k2, k3, k4, k5, hd⟩
      · exact ⟨ob, _, hd, .inl (c.good.rdi _ _ (.pt ob _) h4), rfl⟩
      · exact ⟨ob, _, hd, .inr k1, rfl⟩
    · obtain ⟨m1, m2⟩ := merge_rv (acc := []) p2 .nil
      show RV X.K _ (.dic _ _) _
      unfold RV
      exact ⟨p, _, rfl, upd_same, m1, RVs.mono (Ext.upd (c.good.gnone hp)) _ _ m2⟩
  · exact ct_dict hc E o σ H G own ρ _ d v c hx h
end
section
variable {X : Cx} {b : Expr} {mb : ME} {pos p : Pos} {x : Str}
/-- x[e], x a slot's own -/
def mIxV (i : Nat) (mb : ME) : ME := fun ρ => match qVar i ρ with
  | some _ => (mb ρ).bind fun y ρ1 => match qVar i ρ1 with
    | some c => opt (ixD c.frz y) ρ1
    | none => .bad
  | none => .bad
theorem se_ixV (hu : X.A.units + 100 < cLine) (i : Nat) (hN : X.N[i]? = some x) (hv : Vis X.env.scope x) (h : dbgB x = false) (hb : SE X b mb) (hs : PlainIx b := by intro _ _; rfl) : SE X (.Subscript (.Name x p) b pos) (mIxV i mb) := SE.of fun o σ H G own ρ c nb =>
  ⟨_, pe_ix (X := Cx.to X o _) ix_any (pe_var (X := Cx.to X o _) hN hv (dbg1 h) (dbg2 h)) pe_w hs, by
    unfold mIxV at nb
    cases e0 : qVar i ρ with
    | none => rw [e0] at nb; exact absurd rfl nb
    | some c0 =>
      obtain ⟨w, k1, k2⟩ := c.er i _ (qVar_some e0)
      refine ⟨w, k1, ?_⟩
      have em : mIxV i mb ρ = (mb ρ).bind fun y ρ1 => match qVar i ρ1 with
        | some c => opt (ixD c.frz y) ρ1
        | none => .bad := by unfold mIxV; rw [e0]
      rw [e0] at nb
      dsimp only at nb
      rw [em]
      refine hb.we c (R.bind_nb nb) Xle.bind fun y ρ1 v H1 G1 own1 e1 c1 x1 r1 => ?_
      rw [e1, R.bind_ok] at nb ⊢
      cases e3 : qVar i ρ1 with
      | none => rw [e3] at nb; exact absurd rfl nb
      | some c3 =>
        rw [e3] at nb
        obtain ⟨w', j3, j4⟩ := c1.er i _ (qVar_some e3)
        rw [k1] at j3
        cases j3
        dsimp only at nb ⊢
        obtain ⟨d, e4, e5⟩ := opt_nb nb
        exact ixt hu (j4.top c1.good) r1 e4 fun z rz => ⟨d, ρ1, G1, own1, e5, c1, x1, rz⟩⟩
end
end DL

set_option maxRecDepth 100000
set_option maxHeartbeats 0
noncomputable section
namespace K84
open PySem PySem.W PySem.Calls PyProof.Rows Hx DL
def as : List Addr := [3, 2, 40, 53, 65, 77, 89, 255, 348, 39, 52, 64, 76, 88, 254, 347, 95, 4, 92, 93, 94, 21, 139, 146, 153, 160, 167, 172, 179, 186, 191, 266, 271, 278, 283, 290, 359, 364, 371, 378, 385, 392, 399, 406, 413, 418, 425, 430, 435, 442, 449, 456, 461, 466, 37, 205, 212, 217, 224, 231, 238, 245, 252, 304, 311, 318, 325, 330, 337, 342, 20, 138, 145, 152, 159, 166, 171, 178, 185, 190, 265, 270, 277, 282, 289, 358, 363, 370, 377, 384, 391, 398, 405, 412, 417, 424, 429, 434, 441, 448, 455, 460, 465, 36, 25, 204, 211, 216, 223, 230, 237, 244, 251, 303, 310, 317, 324, 329, 336, 341, 38, 41, 51, 63, 75, 87, 253, 256, 257, 344, 346, 349, 350, 96, 97, 98, 99, 100, 101, 102, 103, 104, 105, 106, 107, 108, 109, 110, 111, 112, 113, 114, 115, 116, 117, 118, 119, 120, 121, 122, 123, 124, 125, 126, 127, 128, 129, 131, 132]
def tabs : List (Addr × List DL.Row3) := [(95, tSTEP_SORTS)]
abbrev hk : PySem.W.Hook := hookA P as facts defs tabs
def env : PySem.Env := { scope := P.main.scope, locals := mainNs, globals := mainNs, cells := [], code := .ref 13, frame := some 14 }
def ns : List En := [("stack", "push", ["letter"]), ("stack", "pop", ["letter"]), ("queue", "put", ["letter"]), ("queue", "take", ["letter"]), ("ring", "put", ["letter"]), ("ring", "take", []), ("tape", "left", []), ("tape", "right", []),
  ("tape", "write", ["letter"]), ("tape", "expect", ["letter"]), ("heap", "insert", ["inserted"]), ("heap", "least", []), ("gauge", "add", ["amount"]), ("gauge", "sub", ["amount"]), ("table", "set", ["letter", "letter"]), ("table", "clear", ["letter"]),
  ("table", "expect", ["letter", "letter"])]
def n18 : En := ("table", "absent", ["letter"])
def q : Program := view P [59]
def n1 : List PySem.Str := ["_wall","BoxError","NoRow","NoBoxes","NoProgram","NoPart","ALPHABET","MOST_SIGNS","MOST_STEPS","MOST_RING","MOST_GAUGE","MOST_INSERTED","RING_MODES","GAUGE_MODES","SIMPLE_KINDS","STEP_SORTS","is_whole","is_number","is_line","is_tuple_of","is_one_of","is_letter","is_kind","is_part","has_step_form","MOST_BOXES"]
def n2 : List PySem.Str := ["Boxes","check_boxes","is_mixed_row","MOST_TIMES","is_act","is_program_part","main_of","MOST_PARTS","MAIN_NAME","Program","check_program","reached_parts","_law_pool","_law_take","_law_one","_law_kind","_law_kind_of","_law_step","_law_rounds","_law_pairs","_law_length","_law_act","_law_parts","_law_wrong_part","_law_made","_law_other","_law_refused"]
def loose : List PySem.Str := n1 ++ n2
/-- the statement of the pairs, by its parts -/
def sPairs : Stmt := P.main.body.getD 17 (.Pass ⟨0, 0, 0, 0⟩)
def dictOf : Stmt → List (Option Expr) × List Expr × Pos × Pos × Pos
  | .Assign [.Name _ np] (.Dict ks vs p2) p => (ks, vs, np, p2, p)
  | _ => ([], [], default, default, default)
def kys : List (Option Expr) := (dictOf sPairs).1
def vls : List Expr := (dictOf sPairs).2.1
def prs : List (Expr × Expr) := (kys.filterMap id).zip vls
def bs : List Nat := [0, 1, 2, 4, 5, 7, 8, 9, 10]
theorem newKey : n18.key ∉ ns.map (·.key) := by
  have h : ((ns ++ [n18]).map (·.key)).Nodup := by decide +kernel
  rw [List.map_append, List.nodup_append] at h
  exact fun z => h.2.2 _ z _ List.mem_cons_self rfl
theorem pre (w : World) (os : OsState) : (preG (stS P w) P 1239 w os).map (fun r => r.2) = some (restR (P.main.body.drop 17) env (.body (behindTheImports P) env) ⟨27, 0, 27, 12⟩ [topFrame ⟨0, 0, 0, 0⟩]) := by kernel_rfl
theorem pre2 (w : World) (os : OsState) : (fun s => (mainOk "STEP_SORTS" s, s.heap.life.registered)) (S1G P 1239 w os) = (true, []) := by kernel_rfl
theorem suf (w : World) (os : OsState) (ps : Pos) : (sufG (stQ P w) 2009 (stmtS P w "STEP_SORTS" ns n18 (S1G P 1239 w os)) (restOf (P.main.body.drop 18) env (.body (behindTheImports P) env) ps [topFrame ⟨0, 0, 0, 0⟩])).map (seenF P q loose bs (obA as facts defs tabs) w) = some (dueF q loose bs (dueK P defs tabs) w os) := by kernel_rfl
theorem beh : Beh P q loose hk.says := by
  refine beh_of (H := hk) (ob := obA as facts defs tabs) (k1 := 1239) (k2 := 2009) (env := env) (pos0 := ⟨27, 0, 27, 12⟩) (q0 := ⟨0, 0, 0, 0⟩) (st := sPairs) (rest := P.main.body.drop 18) (bs := bs) (name := "STEP_SORTS") (np := (dictOf sPairs).2.2.1) (pos := (dictOf sPairs).2.2.2.2) (pos' := (dictOf sPairs).2.2.2.1)
    (keys := kys) (values := vls) (l := prs.take 17) (qe := prs.getD 17 default) (ns := ns) (n := n18) (fun s => obA_eq s) (by kernel_rfl) (fun s => by kernel_rfl) (by decide +kernel) pre pre2 (by kernel_rfl) (by kernel_rfl) (by kernel_rfl) (by kernel_rfl) (by decide +kernel) newKey rfl rfl rfl rfl rfl ?_ (fun w => by kernel_rfl) suf
  refine ⟨?_, ?_, ?_, ?_, ?_⟩
  · kernel_rfl
  · show frameCount _ + _ ≤ 2 + claimMargin
    decide +kernel
  · intro l hl
    cases hl
  · intro l hl
    cases hl
  · show _ ≤ 100
    decide +kernel
end K84

end
set_option maxRecDepth 100000
set_option maxHeartbeats 4000000
/-! readings, step by step (for simp -dsimp) -/
namespace DL
open PySem
section
variable {α β : Type} {ρ ρ1 : Env} {d e : D} {l : List D} {i j n np : Nat} {f g : D → D → Option D} {ma mb mc me : ME} {mo : MO} {t ta tb : MT} {m1 m2 : MS} {q qa qb : Env → Option C} {mas : MA} {Cc : Addr} {f1 : D → Option D} {fl : List D → Option D} {x : Str} {cl : List Addr} {tg : MG} {tgs : MGs} {body : MS}
@[simp] theorem b_ok {a : α} {k : α → Env → R β} : (R.ok a ρ).bind k = k a ρ := rfl
@[simp] theorem b_exc {c : Addr} {fs : List (Str × D)} {k : α → Env → R β} : (R.exc c fs ρ : R α).bind k = .exc c fs ρ := rfl
@[simp] theorem b_bad {k : α → Env → R β} : (R.bad : R α).bind k = .bad := rfl
def k_e_seq1 (m2 : MS) : Fl → Env → R Fl := fun f ρ1 => match f with
  | .nx => m2 ρ1
  | f => .ok f ρ1
@[simp] theorem k_e_seq1_eq {m2 : MS} {f : Fl} {ρ1 : Env} : k_e_seq1 m2 f ρ1 = match f with
  | .nx => m2 ρ1
  | f => .ok f ρ1 := rfl
@[simp] theorem e_seq : mSeq m1 m2 ρ = (m1 ρ).bind (k_e_seq1 m2) := rfl
@[simp] theorem e_skip : mSkip ρ = .ok .nx ρ := rfl
def k_e_ifs1 (m1 : MS) (m2 : MS) : Bool → Env → R Fl := fun c ρ1 => if c = true then m1 ρ1 else m2 ρ1
@[simp] theorem k_e_ifs1_eq {m1 : MS} {m2 : MS} {c : Bool} {ρ1 : Env} : k_e_ifs1 m1 m2 c ρ1 = if c = true then m1 ρ1 else m2 ρ1 := rfl
@[simp] theorem e_ifs : mIfS t m1 m2 ρ = (t ρ).bind (k_e_ifs1 m1 m2) := rfl
def k_e_ret1  : C → Env → R Fl := fun d ρ1 => .ok (.ret d) ρ1
@[simp] theorem k_e_ret1_eq  {d : C} {ρ1 : Env} : k_e_ret1  d ρ1 = .ok (.ret d) ρ1 := rfl
@[simp] theorem e_ret : mRet mo ρ = (mo ρ).bind (k_e_ret1) := rfl
@[simp] theorem e_retv : mRetV np i ρ = match ρ[i]?.join with
  | some (.v d) => .ok (.ret (.v d)) ρ
  | some c => if np ≤ i then .ok (.ret c) (ρ.take np) else .bad
  | none => .bad := rfl
def k_e_own1  : D → Env → R C := fun d ρ1 => .ok (.v d) ρ1
@[simp] theorem k_e_own1_eq  {d : D} {ρ1 : Env} : k_e_own1  d ρ1 = .ok (.v d) ρ1 := rfl
@[simp] theorem e_own : mOwn me ρ = (me ρ).bind (k_e_own1) := rfl
def k_e_frz1  : C → Env → R D := fun c ρ1 => .ok c.frz ρ1
@[simp] theorem k_e_frz1_eq  {c : C} {ρ1 : Env} : k_e_frz1  c ρ1 = .ok c.frz ρ1 := rfl
@[simp] theorem e_frz : mFrz mo ρ = (mo ρ).bind (k_e_frz1) := rfl
@[simp] theorem e_mV : mV q ρ = match q ρ with
  | some (.v d) => .ok d ρ
  | _ => .bad := rfl
@[simp] theorem e_mR : mR q ρ = match q ρ with
  | some c => .ok c.frz ρ
  | none => .bad := rfl
@[simp] theorem e_var : qVar i ρ = ρ[i]?.join := rfl
@[simp] theorem e_qC : qC d ρ = some (.v d) := rfl
@[simp] theorem e_qIx : qIx qa qb ρ = match qa ρ, qb ρ with
  | some x, some (.v y) => (ixD x.frz y).map .v
  | _, _ => none := rfl
def k_e_mB1  : D → Env → R Bool := fun d ρ' => match d with
  | .bl b => .ok b ρ'
  | _ => .bad
@[simp] theorem k_e_mB1_eq  {d : D} {ρ' : Env} : k_e_mB1  d ρ' = match d with
  | .bl b => .ok b ρ'
  | _ => .bad := rfl
@[simp] theorem e_mB : mB me ρ = (me ρ).bind (k_e_mB1) := rfl
def k_e_bin1 (f : D → D → Option D) (x : D) : D → Env → R D := fun y ρ2 => opt (f x y) ρ2
@[simp] theorem k_e_bin1_eq {f : D → D → Option D} {x : D} {y : D} {ρ2 : Env} : k_e_bin1 f x y ρ2 = opt (f x y) ρ2 := rfl
def k_e_bin2 (mb : ME) (f : D → D → Option D) : D → Env → R D := fun x ρ1 => (mb ρ1).bind (k_e_bin1 f x)
@[simp] theorem k_e_bin2_eq {mb : ME} {f : D → D → Option D} {x : D} {ρ1 : Env} : k_e_bin2 mb f x ρ1 = (mb ρ1).bind (k_e_bin1 f x) := rfl
@[simp] theorem e_bin : mBin f ma mb ρ = (ma ρ).bind (k_e_bin2 mb f) := rfl
@[simp] theorem e_opt_s {a : α} : opt (some a) ρ = .ok a ρ := rfl
@[simp] theorem e_opt_n : opt (none : Option α) ρ = .bad := rfl
def k_e_c11 (f1 : D → Option D) : D → Env → R D := fun l ρ1 => opt (f1 l) ρ1
@[simp] theorem k_e_c11_eq {f1 : D → Option D} {l : D} {ρ1 : Env} : k_e_c11 f1 l ρ1 = opt (f1 l) ρ1 := rfl
@[simp] theorem e_c1 : mC1 f1 ma ρ = (ma ρ).bind (k_e_c11 f1) := rfl
def k_e_cb1 (fl : List D → Option D) : List D → Env → R D := fun l ρ1 => opt (fl l) ρ1
@[simp] theorem k_e_cb1_eq {fl : List D → Option D} {l : List D} {ρ1 : Env} : k_e_cb1 fl l ρ1 = opt (fl l) ρ1 := rfl
@[simp] theorem e_cb : mCB fl mas ρ = (mas ρ).bind (k_e_cb1 fl) := rfl
def k_e_cons1 (d : D) : List D → Env → R (List D) := fun l ρ2 => .ok (d :: l) ρ2
@[simp] theorem k_e_cons1_eq {d : D} {l : List D} {ρ2 : Env} : k_e_cons1 d l ρ2 = .ok (d :: l) ρ2 := rfl
def k_e_cons2 (mas : MA) : D → Env → R (List D) := fun d ρ1 => (mas ρ1).bind (k_e_cons1 d)
@[simp] theorem k_e_cons2_eq {mas : MA} {d : D} {ρ1 : Env} : k_e_cons2 mas d ρ1 = (mas ρ1).bind (k_e_cons1 d) := rfl
@[simp] theorem e_cons : mCons me mas ρ = (me ρ).bind (k_e_cons2 mas) := rfl
@[simp] theorem e_nil : mNil ρ = .ok [] ρ := rfl
def k_e_star1 (l : List D) : List D → Env → R (List D) := fun r ρ2 => .ok (l ++ r) ρ2
@[simp] theorem k_e_star1_eq {l : List D} {r : List D} {ρ2 : Env} : k_e_star1 l r ρ2 = .ok (l ++ r) ρ2 := rfl
def k_e_star2 (l : List D) : List D → Env → R (List D) := fun r ρ2 => .ok (l ++ r) ρ2
@[simp] theorem k_e_star2_eq {l : List D} {r : List D} {ρ2 : Env} : k_e_star2 l r ρ2 = .ok (l ++ r) ρ2 := rfl
def k_e_star3 (mas : MA) : D → Env → R (List D) := fun d ρ1 => match d with
  | .tup l => (mas ρ1).bind (k_e_star2 l)
  | .lst l => (mas ρ1).bind (k_e_star1 l)
  | _ => .bad
@[simp] theorem k_e_star3_eq {mas : MA} {d : D} {ρ1 : Env} : k_e_star3 mas d ρ1 = match d with
  | .tup l => (mas ρ1).bind (k_e_star2 l)
  | .lst l => (mas ρ1).bind (k_e_star1 l)
  | _ => .bad := rfl
@[simp] theorem e_star : mStar me mas ρ = (me ρ).bind (k_e_star3 mas) := rfl
def k_e_tup1  : List D → Env → R D := fun l ρ1 => if l.length ≤ sizeLine then .ok (.tup l) ρ1 else .bad
@[simp] theorem k_e_tup1_eq  {l : List D} {ρ1 : Env} : k_e_tup1  l ρ1 = if l.length ≤ sizeLine then .ok (.tup l) ρ1 else .bad := rfl
@[simp] theorem e_tup : mTup mas ρ = (mas ρ).bind (k_e_tup1) := rfl
def k_e_lst1  : List D → Env → R D := fun l ρ1 => if l.length ≤ sizeLine then .ok (.lst l) ρ1 else .bad
@[simp] theorem k_e_lst1_eq  {l : List D} {ρ1 : Env} : k_e_lst1  l ρ1 = if l.length ≤ sizeLine then .ok (.lst l) ρ1 else .bad := rfl
@[simp] theorem e_lst : mLst mas ρ = (mas ρ).bind (k_e_lst1) := rfl
def k_e_lsto1  : List D → Env → R C := fun l ρ1 => if l.length ≤ sizeLine then .ok (.lst l) ρ1 else .bad
@[simp] theorem k_e_lsto1_eq  {l : List D} {ρ1 : Env} : k_e_lsto1  l ρ1 = if l.length ≤ sizeLine then .ok (.lst l) ρ1 else .bad := rfl
@[simp] theorem e_lsto : mLstO mas ρ = (mas ρ).bind (k_e_lsto1) := rfl
def k_e_and1 (tb : MT) : Bool → Env → R Bool := fun c ρ1 => if c = true then tb ρ1 else .ok false ρ1
@[simp] theorem k_e_and1_eq {tb : MT} {c : Bool} {ρ1 : Env} : k_e_and1 tb c ρ1 = if c = true then tb ρ1 else .ok false ρ1 := rfl
@[simp] theorem e_and : mAnd ta tb ρ = (ta ρ).bind (k_e_and1 tb) := rfl
def k_e_or1 (tb : MT) : Bool → Env → R Bool := fun c ρ1 => if c = true then .ok true ρ1 else tb ρ1
@[simp] theorem k_e_or1_eq {tb : MT} {c : Bool} {ρ1 : Env} : k_e_or1 tb c ρ1 = if c = true then .ok true ρ1 else tb ρ1 := rfl
@[simp] theorem e_or : mOr ta tb ρ = (ta ρ).bind (k_e_or1 tb) := rfl
def k_e_not1  : Bool → Env → R Bool := fun c ρ1 => .ok (!c) ρ1
@[simp] theorem k_e_not1_eq  {c : Bool} {ρ1 : Env} : k_e_not1  c ρ1 = .ok (!c) ρ1 := rfl
@[simp] theorem e_not : mNot ta ρ = (ta ρ).bind (k_e_not1) := rfl
def k_e_vand1 (mb : ME) : D → Env → R D := fun d ρ1 => match d with
  | .bl b => if b = true then mb ρ1 else .ok (.bl false) ρ1
  | _ => .bad
@[simp] theorem k_e_vand1_eq {mb : ME} {d : D} {ρ1 : Env} : k_e_vand1 mb d ρ1 = match d with
  | .bl b => if b = true then mb ρ1 else .ok (.bl false) ρ1
  | _ => .bad := rfl
@[simp] theorem e_vand : vAnd ma mb ρ = (ma ρ).bind (k_e_vand1 mb) := rfl
def k_e_vor1 (mb : ME) : D → Env → R D := fun d ρ1 => match d with
  | .bl b => if b = true then .ok (.bl true) ρ1 else mb ρ1
  | _ => .bad
@[simp] theorem k_e_vor1_eq {mb : ME} {d : D} {ρ1 : Env} : k_e_vor1 mb d ρ1 = match d with
  | .bl b => if b = true then .ok (.bl true) ρ1 else mb ρ1
  | _ => .bad := rfl
@[simp] theorem e_vor : vOr ma mb ρ = (ma ρ).bind (k_e_vor1 mb) := rfl
def k_e_vnot1  : D → Env → R D := fun d ρ1 => match d with
  | .bl b => .ok (.bl (!b)) ρ1
  | _ => .bad
@[simp] theorem k_e_vnot1_eq  {d : D} {ρ1 : Env} : k_e_vnot1  d ρ1 = match d with
  | .bl b => .ok (.bl (!b)) ρ1
  | _ => .bad := rfl
@[simp] theorem e_vnot : vNot ma ρ = (ma ρ).bind (k_e_vnot1) := rfl
def k_e_if1 (ma : ME) (mb : ME) : Bool → Env → R D := fun c ρ1 => if c = true then ma ρ1 else mb ρ1
@[simp] theorem k_e_if1_eq {ma : ME} {mb : ME} {c : Bool} {ρ1 : Env} : k_e_if1 ma mb c ρ1 = if c = true then ma ρ1 else mb ρ1 := rfl
@[simp] theorem e_if : mIf t ma mb ρ = (t ρ).bind (k_e_if1 ma mb) := rfl
def k_e_chain1 (g : D → D → Option D) (y : D) : D → Env → R D := fun z ρ3 => opt (g y z) ρ3
@[simp] theorem k_e_chain1_eq {g : D → D → Option D} {y : D} {z : D} {ρ3 : Env} : k_e_chain1 g y z ρ3 = opt (g y z) ρ3 := rfl
def k_e_chain2 (f : D → D → Option D) (x : D) (mc : ME) (g : D → D → Option D) : D → Env → R D := fun y ρ2 => match f x y with
  | some (.bl true) => (mc ρ2).bind (k_e_chain1 g y)
  | some (.bl false) => .ok (.bl false) ρ2
  | _ => .bad
@[simp] theorem k_e_chain2_eq {f : D → D → Option D} {x : D} {mc : ME} {g : D → D → Option D} {y : D} {ρ2 : Env} : k_e_chain2 f x mc g y ρ2 = match f x y with
  | some (.bl true) => (mc ρ2).bind (k_e_chain1 g y)
  | some (.bl false) => .ok (.bl false) ρ2
  | _ => .bad := rfl
def k_e_chain3 (mb : ME) (f : D → D → Option D) (mc : ME) (g : D → D → Option D) : D → Env → R D := fun x ρ1 => (mb ρ1).bind (k_e_chain2 f x mc g)
@[simp] theorem k_e_chain3_eq {mb : ME} {f : D → D → Option D} {mc : ME} {g : D → D → Option D} {x : D} {ρ1 : Env} : k_e_chain3 mb f mc g x ρ1 = (mb ρ1).bind (k_e_chain2 f x mc g) := rfl
@[simp] theorem e_chain : mChain f g ma mb mc ρ = (ma ρ).bind (k_e_chain3 mb f mc g) := rfl
def k_e_neg1  : D → Env → R D := fun x ρ1 => match x with
  | .int i => .ok (.int (-i)) ρ1
  | _ => .bad
@[simp] theorem k_e_neg1_eq  {x : D} {ρ1 : Env} : k_e_neg1  x ρ1 = match x with
  | .int i => .ok (.int (-i)) ρ1
  | _ => .bad := rfl
@[simp] theorem e_neg : mNeg ma ρ = (ma ρ).bind (k_e_neg1) := rfl
def k_e_ix1 (x : D) : D → Env → R D := fun y ρ2 => opt (ixD x y) ρ2
@[simp] theorem k_e_ix1_eq {x : D} {y : D} {ρ2 : Env} : k_e_ix1 x y ρ2 = opt (ixD x y) ρ2 := rfl
def k_e_ix2 (mb : ME) : D → Env → R D := fun x ρ1 => (mb ρ1).bind (k_e_ix1 x)
@[simp] theorem k_e_ix2_eq {mb : ME} {x : D} {ρ1 : Env} : k_e_ix2 mb x ρ1 = (mb ρ1).bind (k_e_ix1 x) := rfl
@[simp] theorem e_ix : mIx ma mb ρ = (ma ρ).bind (k_e_ix2 mb) := rfl
def k_e_isT1 (ty : List String) (cs : List Addr) (cl : List Addr) : D → Env → R D := fun d ρ1 => opt ((isiT ty cs cl d).map .bl) ρ1
@[simp] theorem k_e_isT1_eq {ty : List String} {cs : List Addr} {cl : List Addr} {d : D} {ρ1 : Env} : k_e_isT1 ty cs cl d ρ1 = opt ((isiT ty cs cl d).map .bl) ρ1 := rfl
@[simp] theorem e_isT {ty : List String} {cs : List Addr} : mIsT ty cs cl ma ρ = (ma ρ).bind (k_e_isT1 ty cs cl) := rfl
@[simp] theorem e_slot : aSlot i ρ = match ρ[i]?.join with
  | some (.v d) => .ok (.d d) ρ
  | some _ => .ok (.sl i) ρ
  | none => .bad := rfl
def k_e_aval1  : D → Env → R Ar := fun d ρ1 => .ok (.d d) ρ1
@[simp] theorem k_e_aval1_eq  {d : D} {ρ1 : Env} : k_e_aval1  d ρ1 = .ok (.d d) ρ1 := rfl
@[simp] theorem e_aval : aVal me ρ = (me ρ).bind (k_e_aval1) := rfl
@[simp] theorem e_anil : aNil ρ = .ok [] ρ := rfl
def k_e_acons1 (a : Ar) : List Ar → Env → R (List Ar) := fun l ρ2 => .ok (a :: l) ρ2
@[simp] theorem k_e_acons1_eq {a : Ar} {l : List Ar} {ρ2 : Env} : k_e_acons1 a l ρ2 = .ok (a :: l) ρ2 := rfl
def k_e_acons2 (mr : Env → R (List Ar)) : Ar → Env → R (List Ar) := fun a ρ1 => (mr ρ1).bind (k_e_acons1 a)
@[simp] theorem k_e_acons2_eq {mr : Env → R (List Ar)} {a : Ar} {ρ1 : Env} : k_e_acons2 mr a ρ1 = (mr ρ1).bind (k_e_acons1 a) := rfl
@[simp] theorem e_acons {m : Env → R Ar} {mr : Env → R (List Ar)} : aCons m mr ρ = (m ρ).bind (k_e_acons2 mr) := rfl
def k_e_call1 (np : Nat) (den : Den) : List Ar → Env → R C := fun l ρ1 => if l.length = np then callD den l ρ1 else .bad
@[simp] theorem k_e_call1_eq {np : Nat} {den : Den} {l : List Ar} {ρ1 : Env} : k_e_call1 np den l ρ1 = if l.length = np then callD den l ρ1 else .bad := rfl
@[simp] theorem e_call {den : Den} {mr : Env → R (List Ar)} : mCall np den mr ρ = (mr ρ).bind (k_e_call1 np den) := rfl
def k_e_meth1 (np : Nat) (den : Den) (a : Ar) : List Ar → Env → R C := fun l ρ2 => if l.length + 1 = np then callD den (a :: l) ρ2 else .bad
@[simp] theorem k_e_meth1_eq {np : Nat} {den : Den} {a : Ar} {l : List Ar} {ρ2 : Env} : k_e_meth1 np den a l ρ2 = if l.length + 1 = np then callD den (a :: l) ρ2 else .bad := rfl
def k_e_meth2 (Cc : Addr) (mn : Str) (mr : Env → R (List Ar)) (np : Nat) (den : Den) : Ar → Env → R C := fun a ρ1 => if recvOk Cc mn a ρ1 = true then (mr ρ1).bind (k_e_meth1 np den a) else .bad
@[simp] theorem k_e_meth2_eq {Cc : Addr} {mn : Str} {mr : Env → R (List Ar)} {np : Nat} {den : Den} {a : Ar} {ρ1 : Env} : k_e_meth2 Cc mn mr np den a ρ1 = if recvOk Cc mn a ρ1 = true then (mr ρ1).bind (k_e_meth1 np den a) else .bad := rfl
@[simp] theorem e_meth {den : Den} {mn : Str} {m : Env → R Ar} {mr : Env → R (List Ar)} : mMeth Cc mn np den m mr ρ = (m ρ).bind (k_e_meth2 Cc mn mr np den) := rfl
def k_e_make1 (np : Nat) (den : Den) (Cc : Addr) : List Ar → Env → R C := fun l ρ1 => if l.length + 1 = np then makeD den Cc l ρ1 else .bad
@[simp] theorem k_e_make1_eq {np : Nat} {den : Den} {Cc : Addr} {l : List Ar} {ρ1 : Env} : k_e_make1 np den Cc l ρ1 = if l.length + 1 = np then makeD den Cc l ρ1 else .bad := rfl
@[simp] theorem e_make {den : Den} {mr : Env → R (List Ar)} : mMake Cc np den mr ρ = (mr ρ).bind (k_e_make1 np den Cc) := rfl
def k_e_set1 (np : Nat) (i : Nat) : D → Env → R Fl := fun d ρ1 => if np ≤ i then .ok .nx (ρ1.set i (some (.v d))) else .bad
@[simp] theorem k_e_set1_eq {np : Nat} {i : Nat} {d : D} {ρ1 : Env} : k_e_set1 np i d ρ1 = if np ≤ i then .ok .nx (ρ1.set i (some (.v d))) else .bad := rfl
@[simp] theorem e_set : mSet np i me ρ = (me ρ).bind (k_e_set1 np i) := rfl
def k_e_seto1 (np : Nat) (i : Nat) : C → Env → R Fl := fun d ρ1 => if np ≤ i then .ok .nx (ρ1.set i (some d)) else .bad
@[simp] theorem k_e_seto1_eq {np : Nat} {i : Nat} {d : C} {ρ1 : Env} : k_e_seto1 np i d ρ1 = if np ≤ i then .ok .nx (ρ1.set i (some d)) else .bad := rfl
@[simp] theorem e_seto : mSetO np i mo ρ = (mo ρ).bind (k_e_seto1 np i) := rfl
@[simp] theorem e_gN : gN np i d ρ = if np ≤ i then some (ρ.set i (some (.v d))) else none := rfl
@[simp] theorem e_gW : gW i d ρ = some (ρ.set i (some (.v d))) := rfl
@[simp] theorem e_gT : gT n tgs (.tup l) ρ = if l.length = n then tgs l ρ else none := rfl
@[simp] theorem e_gNs : gNs tg tgs (d :: l) ρ = (tg d ρ).bind (tgs l) := rfl
@[simp] theorem e_gNs0 : gNs0 [] ρ = some ρ := rfl
def k_e_asg1 (tg : MG) : D → Env → R Fl := fun d ρ1 => match tg d ρ1 with
  | some ρ2 => .ok .nx ρ2
  | none => .bad
@[simp] theorem k_e_asg1_eq {tg : MG} {d : D} {ρ1 : Env} : k_e_asg1 tg d ρ1 = match tg d ρ1 with
  | some ρ2 => .ok .nx ρ2
  | none => .bad := rfl
@[simp] theorem e_asg : mAsg me tg ρ = (me ρ).bind (k_e_asg1 tg) := rfl
def k_e_par1 (np : Nat) (i : Nat) (j : Nat) : List D → Env → R Fl := fun l ρ1 => match l with
  | [d, e] => if np ≤ i ∧ np ≤ j then .ok .nx ((ρ1.set i (some (.v d))).set j (some (.v e))) else .bad
  | _ => .bad
@[simp] theorem k_e_par1_eq {np : Nat} {i : Nat} {j : Nat} {l : List D} {ρ1 : Env} : k_e_par1 np i j l ρ1 = match l with
  | [d, e] => if np ≤ i ∧ np ≤ j then .ok .nx ((ρ1.set i (some (.v d))).set j (some (.v e))) else .bad
  | _ => .bad := rfl
@[simp] theorem e_par : mPar np i j mas ρ = (mas ρ).bind (k_e_par1 np i j) := rfl
def k_e_for1 (tg : MG) (body : MS) : D → Env → R Fl := fun d ρ1 => match d with
  | .tup l => forM tg body l ρ1
  | .lst l => forM tg body l ρ1
  | _ => .bad
@[simp] theorem k_e_for1_eq {tg : MG} {body : MS} {d : D} {ρ1 : Env} : k_e_for1 tg body d ρ1 = match d with
  | .tup l => forM tg body l ρ1
  | .lst l => forM tg body l ρ1
  | _ => .bad := rfl
@[simp] theorem e_for : mFor me tg body ρ = (me ρ).bind (k_e_for1 tg body) := rfl
def k_e_fori1 (tg : MG) (body : MS) : List D → Env → R Fl := fun l ρ1 => forM tg body l ρ1
@[simp] theorem k_e_fori1_eq {tg : MG} {body : MS} {l : List D} {ρ1 : Env} : k_e_fori1 tg body l ρ1 = forM tg body l ρ1 := rfl
@[simp] theorem e_fori {mi : Env → R (List D)} : mForI mi tg body ρ = (mi ρ).bind (k_e_fori1 tg body) := rfl
def k_e_setix1 (i : Nat) (d : D) : D → Env → R Fl := fun k ρ2 => match qVar i ρ2, k with
  | some (.lst l), .int n => match L2.ixN l.length n with
    | some j => .ok .nx (ρ2.set i (some (.lst (l.set j d))))
    | none => .bad
  | _, _ => .bad
@[simp] theorem k_e_setix1_eq {i : Nat} {d : D} {k : D} {ρ2 : Env} : k_e_setix1 i d k ρ2 = match qVar i ρ2, k with
  | some (.lst l), .int n => match L2.ixN l.length n with
    | some j => .ok .nx (ρ2.set i (some (.lst (l.set j d))))
    | none => .bad
  | _, _ => .bad := rfl
def k_e_setix2 (mk : ME) (i : Nat) : D → Env → R Fl := fun d ρ1 => (mk ρ1).bind (k_e_setix1 i d)
@[simp] theorem k_e_setix2_eq {mk : ME} {i : Nat} {d : D} {ρ1 : Env} : k_e_setix2 mk i d ρ1 = (mk ρ1).bind (k_e_setix1 i d) := rfl
@[simp] theorem e_setix {mv mk : ME} : mSetIx i mv mk ρ = (mv ρ).bind (k_e_setix2 mk i) := rfl
def k_e_raise1 (Cc : Addr) (x : Str) : D → Env → R Fl := fun d ρ1 => .exc Cc [(x, d)] ρ1
@[simp] theorem k_e_raise1_eq {Cc : Addr} {x : Str} {d : D} {ρ1 : Env} : k_e_raise1 Cc x d ρ1 = .exc Cc [(x, d)] ρ1 := rfl
@[simp] theorem e_raise : mRaise Cc x me ρ = (me ρ).bind (k_e_raise1 Cc x) := rfl
def k_e_iseq1  : D → Env → R (List D) := fun d ρ1 => match d with
  | .tup l => .ok l ρ1
  | .lst l => .ok l ρ1
  | .str z => .ok (z.cps.toList.map fun c => .str ⟨#[c]⟩) ρ1
  | _ => .bad
@[simp] theorem k_e_iseq1_eq  {d : D} {ρ1 : Env} : k_e_iseq1  d ρ1 = match d with
  | .tup l => .ok l ρ1
  | .lst l => .ok l ρ1
  | .str z => .ok (z.cps.toList.map fun c => .str ⟨#[c]⟩) ρ1
  | _ => .bad := rfl
@[simp] theorem e_iseq : iSeq me ρ = (me ρ).bind (k_e_iseq1) := rfl
@[simp] theorem e_yes : tYesM ρ = .ok true ρ := rfl
def k_e_sll1 (d : D) : D → Env → R D := fun i ρ2 => match i with
  | .int n => opt (slD d (some n) none) ρ2
  | _ => .bad
@[simp] theorem k_e_sll1_eq {d : D} {i : D} {ρ2 : Env} : k_e_sll1 d i ρ2 = match i with
  | .int n => opt (slD d (some n) none) ρ2
  | _ => .bad := rfl
def k_e_sll2 (ml : ME) : D → Env → R D := fun d ρ1 => (ml ρ1).bind (k_e_sll1 d)
@[simp] theorem k_e_sll2_eq {ml : ME} {d : D} {ρ1 : Env} : k_e_sll2 ml d ρ1 = (ml ρ1).bind (k_e_sll1 d) := rfl
@[simp] theorem e_sll {ml : ME} : mSlL me ml ρ = (me ρ).bind (k_e_sll2 ml) := rfl
def k_e_slh1 (d : D) : D → Env → R D := fun i ρ2 => match i with
  | .int n => opt (slD d none (some n)) ρ2
  | _ => .bad
@[simp] theorem k_e_slh1_eq {d : D} {i : D} {ρ2 : Env} : k_e_slh1 d i ρ2 = match i with
  | .int n => opt (slD d none (some n)) ρ2
  | _ => .bad := rfl
def k_e_slh2 (ml : ME) : D → Env → R D := fun d ρ1 => (ml ρ1).bind (k_e_slh1 d)
@[simp] theorem k_e_slh2_eq {ml : ME} {d : D} {ρ1 : Env} : k_e_slh2 ml d ρ1 = (ml ρ1).bind (k_e_slh1 d) := rfl
@[simp] theorem e_slh {ml : ME} : mSlH me ml ρ = (me ρ).bind (k_e_slh2 ml) := rfl
@[simp] theorem f_v : (C.v d).frz = d := rfl
@[simp] theorem f_l : (C.lst l).frz = .lst l := rfl
@[simp] theorem f_d {ks : List L2.Key} : (C.dic ks l).frz = .dic ks l := rfl
end
@[simp] theorem sz_eq : sizeLine = 16777216 := sizeLine_eq
end DL

set_option maxRecDepth 100000
set_option maxHeartbeats 4000000
/-! calls, step by step -/
namespace DL
open PySem
/-- behind a call whose first argument is slot i -/
def callSet (i : Nat) (ρ : Env) : R C → R C
  | .ok c ρc => .ok c (ρ.set i (ρc[0]?.join))
  | .exc c fs ρc => .exc c fs (ρ.set i (ρc[0]?.join))
  | .bad => .bad
def callV (ρ : Env) : R C → R C
  | .ok c _ => .ok c ρ
  | .exc c fs _ => .exc c fs ρ
  | .bad => .bad
@[simp] theorem callV_ok {ρ ρc : Env} {c : C} : callV ρ (.ok c ρc) = .ok c ρ := rfl
@[simp] theorem callV_exc {ρ ρc : Env} {c : Addr} {fs : List (Str × D)} : callV ρ (.exc c fs ρc) = .exc c fs ρ := rfl
@[simp] theorem callSet_ok {i : Nat} {ρ ρc : Env} {c : C} : callSet i ρ (.ok c ρc) = .ok c (ρ.set i (ρc[0]?.join)) := rfl
@[simp] theorem callSet_exc {i : Nat} {ρ ρc : Env} {c : Addr} {fs : List (Str × D)} : callSet i ρ (.exc c fs ρc) = .exc c fs (ρ.set i (ρc[0]?.join)) := rfl
theorem posn_d {ds : List D} {i : Option Nat} : posn (ds.map Ar.d) i = none := by
  unfold posn
  rw [List.findIdx?_eq_none_iff]
  intro x hx
  obtain ⟨d, _, rfl⟩ := List.mem_map.mp hx
  rfl
theorem arsC_d {ρ : Env} {tc : Option C} : ∀ {ds : List D}, arsC ρ tc (ds.map Ar.d) = some (ds.map C.v)
  | [] => rfl
  | d :: ds => by
    show (match arC ρ tc (.d d), arsC ρ tc (ds.map Ar.d) with
      | some c, some r => some (c :: r)
      | _, _ => none) = _
    rw [arsC_d]; rfl
theorem back_d {ds : List D} {ρc ρ : Env} : backE (ds.map Ar.d) ρc ρ = ρ := by
  unfold backE
  refine List.ext_getElem? fun i => ?_
  rw [List.getElem?_mapIdx]
  simp -dsimp only [posn_d]
  cases ρ[i]? <;> rfl
theorem call_d {den : Den} {ds : List D} {ρ : Env} : callD den (ds.map Ar.d) ρ = callV ρ (den (ds.map C.v)) := by
  unfold callD
  have ok : okAr (ds.map Ar.d) = true := by
    unfold okAr
    rw [List.all_eq_true]
    intro j _
    rw [List.getElem?_map]
    cases ds[j]? <;> rfl
  rw [arsC_d]
  simp -dsimp only [ok, if_true]
  cases den (ds.map C.v) <;> simp -dsimp [callV, back_d]
theorem posn_s {i : Nat} {ds : List D} {k : Nat} : posn (.sl i :: ds.map Ar.d) (some k) = if k = i then some 0 else none := by
  unfold posn
  rw [List.findIdx?_cons]
  have e : isSl (some k) (.sl i) = decide (k = i) := by
    show (some i == some k) = _
    by_cases h : k = i
    · subst h; simp -dsimp
    · have : (i == k) = false := by simpa using fun z => h z.symm
      simp -dsimp [h, this]
  rw [e]
  by_cases h : k = i
  · simp -dsimp [h]
  · have := posn_d (ds := ds) (i := some k)
    unfold posn at this
    simp -dsimp [h, this]
theorem back_s {i : Nat} {ds : List D} {ρc ρ : Env} : backE (.sl i :: ds.map Ar.d) ρc ρ = ρ.set i (ρc[0]?.join) := by
  unfold backE
  refine List.ext_getElem? fun k => ?_
  rw [List.getElem?_mapIdx, List.getElem?_set]
  simp -dsimp only [posn_s]
  by_cases h : k = i
  · subst h
    simp -dsimp only [if_true]
    by_cases hk : k < ρ.length
    · rw [List.getElem?_eq_getElem hk]; simp -dsimp [hk]
    · rw [List.getElem?_eq_none (Nat.le_of_not_lt hk)]; simp -dsimp [hk]
  · have h' : ¬ i = k := fun z => h z.symm
    simp -dsimp only [h, h', if_false]
    cases ρ[k]? <;> rfl
theorem call_s {den : Den} {i : Nat} {s : C} {ds : List D} {ρ : Env} (h : ρ[i]? = some (some s)) : callD den (.sl i :: ds.map Ar.d) ρ = callSet i ρ (den (s :: ds.map C.v)) := by
  unfold callD
  have ok : okAr (.sl i :: ds.map Ar.d) = true := by
    unfold okAr
    rw [List.all_eq_true]
    intro j _
    cases j with
    | zero => simp -dsimp [posn_s]
    | succ j =>
      rw [List.getElem?_cons_succ, List.getElem?_map]
      cases ds[j]? <;> rfl
  have ar : arsC ρ none (.sl i :: ds.map Ar.d) = some (s :: ds.map C.v) := by
    show (match arC ρ none (.sl i), arsC ρ none (ds.map Ar.d) with
      | some c, some r => some (c :: r)
      | _, _ => none) = _
    rw [arsC_d]
    show (match ρ[i]?.join, some (ds.map C.v) with
      | some c, some r => some (c :: r)
      | _, _ => none) = _
    rw [h]; rfl
  rw [ar]
  simp -dsimp only [ok, if_true]
  cases den (s :: ds.map C.v) <;> simp -dsimp [callSet, back_s]
section
variable {den : Den} {ρ : Env} {i : Nat} {s : C} {a b c d e : D}
@[simp] theorem cd1 : callD den [.d a] ρ = callV ρ (den [.v a]) := call_d (ds := [a])
@[simp] theorem cd2 : callD den [.d a, .d b] ρ = callV ρ (den [.v a, .v b]) := call_d (ds := [a, b])
@[simp] theorem cd3 : callD den [.d a, .d b, .d c] ρ = callV ρ (den [.v a, .v b, .v c]) := call_d (ds := [a, b, c])
@[simp] theorem cd4 : callD den [.d a, .d b, .d c, .d d] ρ = callV ρ (den [.v a, .v b, .v c, .v d]) := call_d (ds := [a, b, c, d])
@[simp] theorem cs1 (h : ρ[i]? = some (some s)) : callD den [.sl i] ρ = callSet i ρ (den [s]) := call_s (ds := []) h
@[simp] theorem cs2 (h : ρ[i]? = some (some s)) : callD den [.sl i, .d a] ρ = callSet i ρ (den [s, .v a]) := call_s (ds := [a]) h
@[simp] theorem cs3 (h : ρ[i]? = some (some s)) : callD den [.sl i, .d a, .d b] ρ = callSet i ρ (den [s, .v a, .v b]) := call_s (ds := [a, b]) h
@[simp] theorem cs4 (h : ρ[i]? = some (some s)) : callD den [.sl i, .d a, .d b, .d c] ρ = callSet i ρ (den [s, .v a, .v b, .v c]) := call_s (ds := [a, b, c]) h
@[simp] theorem cs5 (h : ρ[i]? = some (some s)) : callD den [.sl i, .d a, .d b, .d c, .d d] ρ = callSet i ρ (den [s, .v a, .v b, .v c, .v d]) := call_s (ds := [a, b, c, d]) h
end
/-- an instance made: its __init__'s first argument at hand -/
def makeSet (ρ : Env) : R C → R C
  | .ok (.v .non) ρc => match ρc[0]? with
    | some (some c) => .ok c ρ
    | _ => .bad
  | .ok _ _ => .bad
  | .exc c fs _ => .exc c fs ρ
  | .bad => .bad
theorem posn_t {ds : List D} {k : Nat} : posn (.tmp :: ds.map Ar.d) (some k) = none := by
  unfold posn
  rw [List.findIdx?_cons]
  have e : isSl (some k) .tmp = false := rfl
  rw [e]
  have := posn_d (ds := ds) (i := some k)
  unfold posn at this
  simp -dsimp [this]
theorem back_t {ds : List D} {ρc ρ : Env} : backE (.tmp :: ds.map Ar.d) ρc ρ = ρ := by
  unfold backE
  refine List.ext_getElem? fun i => ?_
  rw [List.getElem?_mapIdx]
  simp -dsimp only [posn_t]
  cases ρ[i]? <;> rfl
theorem make_d {den : Den} {cl : Addr} {ds : List D} {ρ : Env} : makeD den cl (ds.map Ar.d) ρ = makeSet ρ (den (.ins cl [] [] :: ds.map C.v)) := by
  unfold makeD
  have ok : okAr (.tmp :: ds.map Ar.d) = true := by
    unfold okAr
    rw [List.all_eq_true]
    intro j _
    cases j with
    | zero =>
      have e : posn (.tmp :: ds.map Ar.d) none = some 0 := by
        unfold posn
        rw [List.findIdx?_cons]; rfl
      simp -dsimp [e]
    | succ j =>
      rw [List.getElem?_cons_succ, List.getElem?_map]
      cases ds[j]? <;> rfl
  have ar : arsC ρ (some (.ins cl [] [])) (.tmp :: ds.map Ar.d) = some (.ins cl [] [] :: ds.map C.v) := by
    show (match arC ρ (some (.ins cl [] [])) .tmp, arsC ρ (some (.ins cl [] [])) (ds.map Ar.d) with
      | some c, some r => some (c :: r)
      | _, _ => none) = _
    rw [arsC_d]; rfl
  rw [ar]
  simp -dsimp only [ok, if_true]
  cases den (.ins cl [] [] :: ds.map C.v) with
  | ok c ρc =>
    cases c with
    | v dd =>
      cases dd with
      | non =>
        simp -dsimp only [back_t, makeSet] <;> (rcases ρc[0]? with _ | o <;> first | rfl | (cases o <;> rfl))
      | _ => rfl
    | _ => rfl
  | exc c fs ρc => simp -dsimp [makeSet, back_t]
  | bad => rfl
@[simp] theorem md1 {den : Den} {cl : Addr} {a : D} {ρ : Env} : makeD den cl [.d a] ρ = makeSet ρ (den [.ins cl [] [], .v a]) := make_d (ds := [a])
@[simp] theorem md2 {den : Den} {cl : Addr} {a b : D} {ρ : Env} : makeD den cl [.d a, .d b] ρ = makeSet ρ (den [.ins cl [] [], .v a, .v b]) := make_d (ds := [a, b])
end DL

set_option maxRecDepth 100000
set_option maxHeartbeats 4000000
/-! == of plain data (texts, ints, None, tuples, lists) -/
namespace DL
open PySem
def dtB : Nat → D → Bool
  | _, .non => true
  | _, .int _ => true
  | _, .str x => PyData.strOk x
  | n + 1, .tup l => l.all (dtB n)
  | n + 1, .lst l => l.all (dtB n)
  | _, _ => false
theorem dtB_tup {n : Nat} {l : List D} : dtB (n + 1) (.tup l) = l.all (dtB n) := rfl
theorem dtB_lst {n : Nat} {l : List D} : dtB (n + 1) (.lst l) = l.all (dtB n) := rfl
theorem toPys_all {n : Nat} (ih : ∀ d, dtB n d = true → ∃ p, toPy d = some p ∧ p.canLay0 = true ∧ p.depth ≤ n) : ∀ l : List D, l.all (dtB n) = true → ∃ ps, toPys l = some ps ∧ PyData.canLayAll0 ps = true ∧ PyData.depthAll ps ≤ n
  | [], _ => ⟨[], by unfold toPys; rfl, rfl, Nat.zero_le _⟩
  | d :: l, h => by
    obtain ⟨h1, h2⟩ := Bool.and_eq_true_iff.mp (show (dtB n d && l.all (dtB n)) = true from h)
    obtain ⟨p, e1, e2, e3⟩ := ih d h1
    obtain ⟨ps, f1, f2, f3⟩ := toPys_all ih l h2
    refine ⟨p :: ps, by unfold toPys; rw [e1, f1], ?_, ?_⟩
    · show (p.canLay0 && PyData.canLayAll0 ps) = true
      rw [e2, f2]; rfl
    · show max p.depth (PyData.depthAll ps) ≤ n
      omega
theorem dt_py : ∀ (n : Nat) (d : D), dtB n d = true → ∃ p, toPy d = some p ∧ p.canLay0 = true ∧ p.depth ≤ n
  | n, .non, _ => ⟨.none, by unfold toPy; rfl, rfl, Nat.zero_le _⟩
  | n, .int i, _ => ⟨.int i, by unfold toPy; rfl, rfl, Nat.zero_le _⟩
  | n, .str x, h => ⟨.str x, by unfold toPy; rfl, by cases n <;> exact h, Nat.zero_le _⟩
  | 0, .tup l, h => by cases h
  | n + 1, .tup l, h => by
    obtain ⟨ps, f1, f2, f3⟩ := toPys_all (dt_py n) l h
    exact ⟨.tuple ps, by unfold toPy; rw [f1]; rfl, f2, by show PyData.depthAll ps + 1 ≤ n + 1; omega⟩
  | 0, .lst l, h => by cases h
  | n + 1, .lst l, h => by
    obtain ⟨ps, f1, f2, f3⟩ := toPys_all (dt_py n) l h
    exact ⟨.list ps, by unfold toPy; rw [f1]; rfl, f2, by show PyData.depthAll ps + 1 ≤ n + 1; omega⟩
  | 0, .bl _, h => by cases h
  | n + 1, .bl _, h => by cases h
  | 0, .dic _ _, h => by cases h
  | n + 1, .dic _ _, h => by cases h
  | 0, .ins _ _ _, h => by cases h
  | n + 1, .ins _ _ _, h => by cases h
theorem dts_eq {n : Nat} (ih : ∀ a b p q, dtB n a = true → dtB n b = true → toPy a = some p → toPy b = some q → (PyData.eqv p q = true ↔ a = b)) : ∀ (l m : List D) (ps qs : List PyData), l.all (dtB n) = true → m.all (dtB n) = true → toPys l = some ps → toPys m = some qs → (PyData.eqvAll ps qs = true ↔ l = m)
  | [], [], ps, qs, _, _, h1, h2 => by unfold toPys at h1 h2; cases h1; cases h2; exact ⟨fun _ => rfl, fun _ => rfl⟩
  | [], b :: m, ps, qs, _, hm, h1, h2 => by
    unfold toPys at h1 h2
    cases h1
    split at h2
    · cases h2; exact ⟨(fun z => by cases z), (fun z => by cases z)⟩
    · cases h2
  | a :: l, [], ps, qs, _, hm, h1, h2 => by
    unfold toPys at h1 h2
    cases h2
    split at h1
    · cases h1; exact ⟨(fun z => by cases z), (fun z => by cases z)⟩
    · cases h1
  | a :: l, b :: m, ps, qs, hl, hm, h1, h2 => by
    obtain ⟨a1, a2⟩ := Bool.and_eq_true_iff.mp (show (dtB n a && l.all (dtB n)) = true from hl)
    obtain ⟨b1, b2⟩ := Bool.and_eq_true_iff.mp (show (dtB n b && m.all (dtB n)) = true from hm)
    unfold toPys at h1 h2
    split at h1
    · rename_i p ps' e1 e2
      cases h1
      split at h2
      · rename_i q qs' e3 e4
        cases h2
        show (PyData.eqv p q && PyData.eqvAll ps' qs') = true ↔ _
        rw [Bool.and_eq_true, ih a b p q a1 b1 e1 e3, dts_eq ih l m ps' qs' a2 b2 e2 e4, List.cons.injEq]
      · cases h2
    · cases h1
theorem dt_eq : ∀ (n : Nat) (a b : D) (p q : PyData), dtB n a = true → dtB n b = true → toPy a = some p → toPy b = some q → (PyData.eqv p q = true ↔ a = b) := by
  intro n
  induction n with
  | zero =>
    intro a b p q ha hb h1 h2
    cases a <;> first | (cases ha; done) | skip
    all_goals cases b <;> first | (cases hb; done) | skip
    all_goals (unfold toPy at h1 h2; cases h1; cases h2; simp -dsimp [PyData.eqv])
  | succ n ih =>
    intro a b p q ha hb h1 h2
    cases a <;> first | (cases ha; done) | skip
    all_goals cases b <;> first | (cases hb; done) | skip
    all_goals unfold toPy at h1 h2
    all_goals first
      | (obtain ⟨ps, e1, e2⟩ := Option.map_eq_some_iff.mp h1; obtain ⟨qs, e3, e4⟩ := Option.map_eq_some_iff.mp h2; subst e2 e4; (first | (rw [D.tup.injEq]; exact dts_eq ih _ _ ps qs ha hb e1 e3) | (rw [D.lst.injEq]; exact dts_eq ih _ _ ps qs ha hb e1 e3) | simp -dsimp [PyData.eqv]))
      | (obtain ⟨ps, e1, e2⟩ := Option.map_eq_some_iff.mp h1; subst e2; cases h2; simp -dsimp [PyData.eqv])
      | (obtain ⟨ps, e1, e2⟩ := Option.map_eq_some_iff.mp h2; subst e2; cases h1; simp -dsimp [PyData.eqv])
      | (cases h1; cases h2; simp -dsimp [PyData.eqv])
theorem shaped_dt {n : Nat} (hn : n ≤ 64) {p : PyData} (h1 : p.canLay0 = true) (h2 : p.depth ≤ n) : SeqAt.shaped p = true := by
  unfold SeqAt.shaped
  rw [h1, decide_eq_true (by omega : p.depth ≤ 64)]; rfl
theorem eqP_dt {n : Nat} (hn : n ≤ 64) {a b : D} (ha : dtB n a = true) (hb : dtB n b = true) : ∃ r, eqP a b = some r ∧ (r = true ↔ a = b) := by
  obtain ⟨p, e1, e2, e3⟩ := dt_py n a ha
  obtain ⟨q, f1, f2, f3⟩ := dt_py n b hb
  refine ⟨PyData.eqv p q, ?_, dt_eq n a b p q ha hb e1 f1⟩
  unfold eqP
  rw [e1, f1]
  simp -dsimp [shaped_dt hn e2 e3, shaped_dt hn f2 f3]
theorem eqD_same (n : Nat) (hn : n ≤ 64) {a : D} (ha : dtB n a = true) : eqD a a = some (.bl true) := by
  obtain ⟨r, e, h⟩ := eqP_dt hn ha ha
  unfold eqD
  rw [e, h.mpr rfl]; rfl
theorem neD_same (n : Nat) (hn : n ≤ 64) {a : D} (ha : dtB n a = true) : neD a a = some (.bl false) := by
  obtain ⟨r, e, h⟩ := eqP_dt hn ha ha
  unfold neD
  rw [e, h.mpr rfl]; rfl
theorem eqD_not (n : Nat) (hn : n ≤ 64) {a b : D} (ha : dtB n a = true) (hb : dtB n b = true) (hne : a ≠ b) : eqD a b = some (.bl false) := by
  obtain ⟨r, e, h⟩ := eqP_dt hn ha hb
  unfold eqD
  rw [e]
  cases r with
  | true => exact absurd (h.mp rfl) hne
  | false => rfl
theorem neD_not (n : Nat) (hn : n ≤ 64) {a b : D} (ha : dtB n a = true) (hb : dtB n b = true) (hne : a ≠ b) : neD a b = some (.bl true) := by
  obtain ⟨r, e, h⟩ := eqP_dt hn ha hb
  unfold neD
  rw [e]
  cases r with
  | true => exact absurd (h.mp rfl) hne
  | false => rfl
@[simp] theorem eqD_int {i j : Int} : eqD (.int i) (.int j) = some (.bl (decide (i = j))) := by
  by_cases h : i = j
  · subst h; rw [eqD_same 0 (by omega) rfl]; simp -dsimp
  · rw [eqD_not 0 (by omega) rfl rfl (by intro z; cases z; exact h rfl)]; simp -dsimp [h]
theorem eqD_str {x y : Str} (hx : PyData.strOk x = true) (hy : PyData.strOk y = true) : eqD (.str x) (.str y) = some (.bl (decide (x = y))) := by
  by_cases h : x = y
  · subst h; rw [eqD_same 0 (by omega) (show dtB 0 (.str x) = true from hx)]; simp -dsimp
  · rw [eqD_not 0 (by omega) (show dtB 0 (.str x) = true from hx) (show dtB 0 (.str y) = true from hy) (by intro z; cases z; exact h rfl)]; simp -dsimp [h]
end DL

set_option maxRecDepth 100000
set_option maxHeartbeats 4000000
namespace K84
open PySem DL
def src (a b : Int) : DL.C := .lst [.int a, .int b]
structure Ok (a b : Int) : Prop where
  a0 : 0 ≤ a
  b0 : 0 ≤ b
  b1 : b < 2147483647
theorem take_pos (a b n : Int) (h : Ok a b) (ha : 0 < a) (hn : 0 < n) (hz : n ≤ 1000) : d__law_take [src a b, .v (.int n)] = .ok (.v (.int (a % n))) [some (src (a / n) b), some (.v (.int n))] := by
  have hd : L2.CDiv a n := by unfold L2.CDiv; omega
  unfold d__law_take denOf m__law_take src
  simp -dsimp [gtD, ixD, ha, intD, modD, divD, hn, L2.atI, L2.ixN, hd]
theorem take_zero (a b n : Int) (h : Ok a b) (ha : ¬ 0 < a) (hn : 0 < n) (hz : n ≤ 1000) : ∃ b', 0 ≤ b' ∧ b' < 2147483647 ∧ d__law_take [src a b, .v (.int n)] = .ok (.v (.int ((b' * b') % 2147483629 / 32 % n))) [some (src a b'), some (.v (.int n))] := by
  have h1 := h.b0
  have h2 := h.b1
  refine ⟨(b * 39373 + 7) % 2147483647, by omega, by omega, ?_⟩
  have m1 : L2.CMul b 39373 := by unfold L2.CMul; omega
  have q1 : 0 ≤ (b * 39373 + 7) % 2147483647 := by omega
  have q2 : (b * 39373 + 7) % 2147483647 < 2147483647 := by omega
  have m2 : L2.CMul ((b * 39373 + 7) % 2147483647) ((b * 39373 + 7) % 2147483647) := by unfold L2.CMul; omega
  unfold d__law_take denOf m__law_take src
  simp -dsimp [gtD, ixD, ha, intD, modD, divD, mulD, addD, hn, L2.atI, L2.ixN, m1, m2, L2.CDiv]
theorem take (a b n : Int) (h : Ok a b) (hn : 0 < n) (hz : n ≤ 1000) : ∃ i a' b', 0 ≤ i ∧ i < n ∧ Ok a' b' ∧ d__law_take [src a b, .v (.int n)] = .ok (.v (.int i)) [some (src a' b'), some (.v (.int n))] := by
  by_cases ha : 0 < a
  · exact ⟨a % n, a / n, b, Int.emod_nonneg _ (by omega), Int.emod_lt_of_pos _ hn, ⟨Int.ediv_nonneg h.a0 (by omega), h.b0, h.b1⟩, take_pos a b n h ha hn hz⟩
  · obtain ⟨b', h1, h2, h3⟩ := take_zero a b n h ha hn hz
    exact ⟨_, a, b', Int.emod_nonneg _ (by omega), Int.emod_lt_of_pos _ hn, ⟨h.a0, h1, h2⟩, h3⟩
theorem atI_mem {l : List D} {i : Int} (h0 : 0 ≤ i) (h1 : i < l.length) : ∃ x ∈ l, L2.atI l i = some x := by
  have hi : i.toNat < l.length := by omega
  refine ⟨l[i.toNat], List.getElem_mem hi, ?_⟩
  simp -dsimp [L2.atI, L2.ixN, h0, h1, hi]
theorem one_l (a b : Int) (h : Ok a b) (l : List D) (hl : l ≠ []) (hz : l.length ≤ 1000) : ∃ x ∈ l, ∃ a' b', Ok a' b' ∧ d__law_one [src a b, .v (.lst l)] = .ok (.v x) [some (src a' b'), some (.v (.lst l))] := by
  have hp : 0 < l.length := List.length_pos_iff.mpr hl
  obtain ⟨i, a', b', h0, h1, h2, h3⟩ := take a b l.length h (by omega) (by omega)
  obtain ⟨x, hx, e⟩ := atI_mem (l := l) h0 h1
  refine ⟨x, hx, a', b', h2, ?_⟩
  unfold d__law_one denOf m__law_one
  simp -dsimp only [src] at h3 ⊢
  simp -dsimp [lenD, h3, ixD, e]
theorem one_t (a b : Int) (h : Ok a b) (l : List D) (hl : l ≠ []) (hz : l.length ≤ 1000) : ∃ x ∈ l, ∃ a' b', Ok a' b' ∧ d__law_one [src a b, .v (.tup l)] = .ok (.v x) [some (src a' b'), some (.v (.tup l))] := by
  have hp : 0 < l.length := List.length_pos_iff.mpr hl
  obtain ⟨i, a', b', h0, h1, h2, h3⟩ := take a b l.length h (by omega) (by omega)
  obtain ⟨x, hx, e⟩ := atI_mem (l := l) h0 h1
  refine ⟨x, hx, a', b', h2, ?_⟩
  unfold d__law_one denOf m__law_one
  simp -dsimp only [src] at h3 ⊢
  simp -dsimp [lenD, h3, ixD, e]
end K84

set_option maxRecDepth 100000
set_option maxHeartbeats 4000000
namespace K84
open PySem DL
def simples : List Str := ["stack", "queue", "tape", "heap", "table"]
/-- the drawn kinds -/
def kinds : List D := simples.map (fun x => .tup [.str x]) ++ ([1, 2, 3, 4] : List Int).flatMap (fun i => (["drop", "ignore", "fail"] : List Str).map fun m => .tup [.str "ring", .int i, .str m]) ++
  ([1, 2, 5, 9] : List Int).flatMap (fun i => (["stop", "fail"] : List Str).map fun m => .tup [.str "gauge", .int i, .str m])
theorem kind_ring (a b : Int) (h : Ok a b) : ∃ k ∈ kinds, ∃ a' b', Ok a' b' ∧ d__law_kind_of [src a b, .v (.str "ring")] = .ok (.v k) [some (src a' b'), some (.v (.str "ring"))] := by
  obtain ⟨x, hx, a1, b1, h1, e1⟩ := one_l a b h [.int 1, .int 2, .int 3, .int 4] (by simp -dsimp) (by simp -dsimp)
  obtain ⟨y, hy, a2, b2, h2, e2⟩ := one_l a1 b1 h1 [.str "drop", .str "ignore", .str "fail"] (by simp -dsimp) (by simp -dsimp)
  refine ⟨.tup [.str "ring", x, y], ?_, a2, b2, h2, ?_⟩
  · simp -dsimp only [List.mem_cons, List.mem_nil_iff, or_false] at hx hy
    rcases hx with rfl | rfl | rfl | rfl <;> rcases hy with rfl | rfl | rfl <;> simp -dsimp [kinds]
  · unfold d__law_kind_of denOf m__law_kind_of
    simp -dsimp only [src] at e1 e2 ⊢
    have q : eqD (.str "ring") (.str "ring") = some (.bl true) := by kernel_rfl
    simp -dsimp [e1, e2, q]
theorem kind_gauge (a b : Int) (h : Ok a b) : ∃ k ∈ kinds, ∃ a' b', Ok a' b' ∧ d__law_kind_of [src a b, .v (.str "gauge")] = .ok (.v k) [some (src a' b'), some (.v (.str "gauge"))] := by
  obtain ⟨x, hx, a1, b1, h1, e1⟩ := one_l a b h [.int 1, .int 2, .int 5, .int 9] (by simp -dsimp) (by simp -dsimp)
  obtain ⟨y, hy, a2, b2, h2, e2⟩ := one_l a1 b1 h1 [.str "stop", .str "fail"] (by simp -dsimp) (by simp -dsimp)
  refine ⟨.tup [.str "gauge", x, y], ?_, a2, b2, h2, ?_⟩
  · simp -dsimp only [List.mem_cons, List.mem_nil_iff, or_false] at hx hy
    rcases hx with rfl | rfl | rfl | rfl <;> rcases hy with rfl | rfl <;> simp -dsimp [kinds]
  · unfold d__law_kind_of denOf m__law_kind_of
    simp -dsimp only [src] at e1 e2 ⊢
    have q : eqD (.str "gauge") (.str "gauge") = some (.bl true) := by kernel_rfl
    have q2 : eqD (.str "gauge") (.str "ring") = some (.bl false) := by kernel_rfl
    simp -dsimp [e1, e2, q, q2]
theorem kind_simple (a b : Int) (x : Str) (hx : x ∈ simples) : d__law_kind_of [src a b, .v (.str x)] = .ok (.v (.tup [.str x])) [some (src a b), some (.v (.str x))] := by
  simp -dsimp only [simples, List.mem_cons, List.mem_nil_iff, or_false] at hx
  rcases hx with rfl | rfl | rfl | rfl | rfl <;> kernel_rfl
end K84

set_option maxRecDepth 100000
set_option maxHeartbeats 4000000
namespace K84
open PySem DL
@[simp] theorem q_stack_stack : eqD (.str "stack") (.str "stack") = some (.bl true) := by kernel_rfl
@[simp] theorem q_queue_stack : eqD (.str "queue") (.str "stack") = some (.bl false) := by kernel_rfl
@[simp] theorem q_queue_queue : eqD (.str "queue") (.str "queue") = some (.bl true) := by kernel_rfl
@[simp] theorem q_ring_stack : eqD (.str "ring") (.str "stack") = some (.bl false) := by kernel_rfl
@[simp] theorem q_ring_queue : eqD (.str "ring") (.str "queue") = some (.bl false) := by kernel_rfl
@[simp] theorem q_ring_ring : eqD (.str "ring") (.str "ring") = some (.bl true) := by kernel_rfl
@[simp] theorem q_tape_stack : eqD (.str "tape") (.str "stack") = some (.bl false) := by kernel_rfl
@[simp] theorem q_tape_queue : eqD (.str "tape") (.str "queue") = some (.bl false) := by kernel_rfl
@[simp] theorem q_tape_ring : eqD (.str "tape") (.str "ring") = some (.bl false) := by kernel_rfl
@[simp] theorem q_tape_tape : eqD (.str "tape") (.str "tape") = some (.bl true) := by kernel_rfl
@[simp] theorem q_heap_stack : eqD (.str "heap") (.str "stack") = some (.bl false) := by kernel_rfl
@[simp] theorem q_heap_queue : eqD (.str "heap") (.str "queue") = some (.bl false) := by kernel_rfl
@[simp] theorem q_heap_ring : eqD (.str "heap") (.str "ring") = some (.bl false) := by kernel_rfl
@[simp] theorem q_heap_tape : eqD (.str "heap") (.str "tape") = some (.bl false) := by kernel_rfl
@[simp] theorem q_heap_heap : eqD (.str "heap") (.str "heap") = some (.bl true) := by kernel_rfl
@[simp] theorem q_gauge_stack : eqD (.str "gauge") (.str "stack") = some (.bl false) := by kernel_rfl
@[simp] theorem q_gauge_queue : eqD (.str "gauge") (.str "queue") = some (.bl false) := by kernel_rfl
@[simp] theorem q_gauge_ring : eqD (.str "gauge") (.str "ring") = some (.bl false) := by kernel_rfl
@[simp] theorem q_gauge_tape : eqD (.str "gauge") (.str "tape") = some (.bl false) := by kernel_rfl
@[simp] theorem q_gauge_heap : eqD (.str "gauge") (.str "heap") = some (.bl false) := by kernel_rfl
@[simp] theorem q_gauge_gauge : eqD (.str "gauge") (.str "gauge") = some (.bl true) := by kernel_rfl
@[simp] theorem q_table_stack : eqD (.str "table") (.str "stack") = some (.bl false) := by kernel_rfl
@[simp] theorem q_table_queue : eqD (.str "table") (.str "queue") = some (.bl false) := by kernel_rfl
@[simp] theorem q_table_ring : eqD (.str "table") (.str "ring") = some (.bl false) := by kernel_rfl
@[simp] theorem q_table_tape : eqD (.str "table") (.str "tape") = some (.bl false) := by kernel_rfl
@[simp] theorem q_table_heap : eqD (.str "table") (.str "heap") = some (.bl false) := by kernel_rfl
@[simp] theorem q_table_gauge : eqD (.str "table") (.str "gauge") = some (.bl false) := by kernel_rfl

theorem kind (a b : Int) (h : Ok a b) : ∃ k ∈ kinds, ∃ a' b', Ok a' b' ∧ d__law_kind [src a b] = .ok (.v k) [some (src a' b')] := by
  obtain ⟨x, hx, a1, b1, h1, e1⟩ := one_l a b h [.str "stack", .str "queue", .str "tape", .str "heap", .str "table", .str "ring", .str "gauge"] (by simp -dsimp) (by simp -dsimp)
  have key : ∃ k ∈ kinds, ∃ a' b', Ok a' b' ∧ d__law_kind_of [src a1 b1, .v x] = .ok (.v k) [some (src a' b'), some (.v x)] := by
    simp -dsimp only [List.mem_cons, List.mem_nil_iff, or_false] at hx
    have sm : ∀ y ∈ simples, ∃ k ∈ kinds, ∃ a' b', Ok a' b' ∧ d__law_kind_of [src a1 b1, .v (.str y)] = .ok (.v k) [some (src a' b'), some (.v (.str y))] := fun y hy => ⟨.tup [.str y], by simp -dsimp only [kinds, List.mem_append, List.mem_map]; exact .inl (.inl ⟨y, hy, rfl⟩), a1, b1, h1, kind_simple a1 b1 y hy⟩
    rcases hx with rfl | rfl | rfl | rfl | rfl | rfl | rfl
    · exact sm _ (by simp -dsimp [simples])
    · exact sm _ (by simp -dsimp [simples])
    · exact sm _ (by simp -dsimp [simples])
    · exact sm _ (by simp -dsimp [simples])
    · exact sm _ (by simp -dsimp [simples])
    · exact kind_ring a1 b1 h1
    · exact kind_gauge a1 b1 h1
  obtain ⟨k, hk, a2, b2, h2, e2⟩ := key
  refine ⟨k, hk, a2, b2, h2, ?_⟩
  unfold d__law_kind denOf m__law_kind
  simp -dsimp only [src] at e1 e2 ⊢
  simp -dsimp [e1, e2]
def ab : List D := [.str "a", .str "b"]
/-- the drawn steps of a kind -/
def steps : D → List D
  | .tup (.str s :: r) =>
    if s = "stack" then ab.flatMap fun x => [.tup [.str "push", x], .tup [.str "pop", x]]
    else if s = "queue" then ab.flatMap fun x => [.tup [.str "put", x], .tup [.str "take", x]]
    else if s = "ring" then .tup [.str "take"] :: ab.map fun x => .tup [.str "put", x]
    else if s = "tape" then [.tup [.str "left"], .tup [.str "right"]] ++ ab.flatMap fun x => [.tup [.str "write", x], .tup [.str "expect", x]]
    else if s = "heap" then .tup [.str "least"] :: ([-999, -1, 0, 3, 3, 5, 999] : List Int).map fun i => .tup [.str "insert", .int i]
    else if s = "gauge" then (match r with
      | .int n :: _ => (List.range (min n 4).toNat).flatMap fun i => [.tup [.str "add", .int (1 + (i : Nat))], .tup [.str "sub", .int (1 + (i : Nat))]]
      | _ => [])
    else (["n", "m", "name"] : List Str).flatMap fun n => [.tup [.str "clear", .str n], .tup [.str "absent", .str n]] ++ ab.flatMap fun x => [.tup [.str "set", .str n, x], .tup [.str "expect", .str n, x]]
  | _ => []
def isT : R DL.C → Bool
  | .ok (.v (.bl true)) _ => true
  | _ => false
theorem isT_ok {r : R DL.C} (h : isT r = true) : ∃ ρ, r = .ok (.v (.bl true)) ρ := by
  unfold isT at h
  split at h
  · exact ⟨_, rfl⟩
  · cases h
def kindsOk : Bool := kinds.all fun k => isT (d_is_kind [.v k]) && (steps k).all fun s => isT (d_has_step_form [.v k, .v s])
theorem kinds_ok : kindsOk = true := by kernel_rfl
theorem is_kind {k : D} (hk : k ∈ kinds) : ∃ ρ, d_is_kind [.v k] = .ok (.v (.bl true)) ρ := isT_ok (Bool.and_eq_true_iff.mp (List.all_eq_true.mp kinds_ok k hk)).1
theorem step_form {k s : D} (hk : k ∈ kinds) (hs : s ∈ steps k) : ∃ ρ, d_has_step_form [.v k, .v s] = .ok (.v (.bl true)) ρ := isT_ok (List.all_eq_true.mp (Bool.and_eq_true_iff.mp (List.all_eq_true.mp kinds_ok k hk)).2 s hs)
end K84

set_option maxRecDepth 100000
set_option maxHeartbeats 4000000
namespace K84
open PySem DL
structure Let (L : List D) : Prop where
  ne : L ≠ []
  sz : L.length ≤ 1000
  sub : ∀ x ∈ L, x ∈ ab
/-- what a drawn step's def is asked for -/
def StepAns (a b : Int) (k : D) (L : List D) : Prop := ∃ s ∈ steps k, ∃ a' b', Ok a' b' ∧ d__law_step [src a b, .v k, .v (.lst L)] = .ok (.v s) [some (src a' b'), some (.v k), some (.v (.lst L))]
section
variable {a b : Int} {L : List D} (h : Ok a b) (hL : Let L)
include h hL
theorem draw2 : ∃ x ∈ ab, ∃ w : Int, (w = 0 ∨ w ≠ 0) ∧ ∃ a1 b1 a2 b2, Ok a2 b2 ∧ d__law_one [src a b, .v (.lst L)] = .ok (.v x) [some (src a1 b1), some (.v (.lst L))] ∧ d__law_take [src a1 b1, .v (.int 2)] = .ok (.v (.int w)) [some (src a2 b2), some (.v (.int 2))] := by
  obtain ⟨x, hx, a1, b1, h1, e1⟩ := one_l a b h L hL.ne hL.sz
  obtain ⟨w, a2, b2, _, _, h2, e2⟩ := take a1 b1 2 h1 (by omega) (by omega)
  exact ⟨x, hL.sub x hx, w, by omega, a1, b1, a2, b2, h2, e1, e2⟩
theorem step_stack : StepAns a b (.tup [.str "stack"]) L := by
  obtain ⟨x, hx, w, hw, a1, b1, a2, b2, h2, e1, e2⟩ := draw2 h hL
  simp -dsimp only [src] at e1 e2
  rcases hw with rfl | hw
  · refine ⟨.tup [.str "push", x], by simp -dsimp [steps]; exact ⟨x, hx, .inl rfl⟩, a2, b2, h2, ?_⟩
    unfold d__law_step denOf m__law_step
    simp -dsimp only [src]
    simp -dsimp [e1, e2, ixD, L2.atI, L2.ixN]
  · refine ⟨.tup [.str "pop", x], by simp -dsimp [steps]; exact ⟨x, hx, .inr rfl⟩, a2, b2, h2, ?_⟩
    unfold d__law_step denOf m__law_step
    simp -dsimp only [src]
    simp -dsimp [e1, e2, ixD, L2.atI, L2.ixN, hw]
theorem step_queue : StepAns a b (.tup [.str "queue"]) L := by
  obtain ⟨x, hx, w, hw, a1, b1, a2, b2, h2, e1, e2⟩ := draw2 h hL
  simp -dsimp only [src] at e1 e2
  rcases hw with rfl | hw
  · refine ⟨.tup [.str "put", x], by have : ("queue" : Str) ≠ "stack" := (by decide); simp -dsimp [steps, this]; exact ⟨x, hx, .inl rfl⟩, a2, b2, h2, ?_⟩
    unfold d__law_step denOf m__law_step
    simp -dsimp only [src]
    simp -dsimp [e1, e2, ixD, L2.atI, L2.ixN]
  · refine ⟨.tup [.str "take", x], by have : ("queue" : Str) ≠ "stack" := (by decide); simp -dsimp [steps, this]; exact ⟨x, hx, .inr rfl⟩, a2, b2, h2, ?_⟩
    unfold d__law_step denOf m__law_step
    simp -dsimp only [src]
    simp -dsimp [e1, e2, ixD, L2.atI, L2.ixN, hw]
theorem step_ring (i m : D) : StepAns a b (.tup [.str "ring", i, m]) L := by
  obtain ⟨x, hx, w, hw, a1, b1, a2, b2, h2, e1, e2⟩ := draw2 h hL
  simp -dsimp only [src] at e1 e2
  have n1 : ("ring" : Str) ≠ "stack" := by decide
  have n2 : ("ring" : Str) ≠ "queue" := by decide
  rcases hw with rfl | hw
  · refine ⟨.tup [.str "put", x], by simp -dsimp only [steps, n1, n2, if_false, if_true]; exact List.mem_cons_of_mem _ (List.mem_map.mpr ⟨x, hx, rfl⟩), a2, b2, h2, ?_⟩
    unfold d__law_step denOf m__law_step
    simp -dsimp only [src]
    simp -dsimp [e1, e2, ixD, L2.atI, L2.ixN]
  · refine ⟨.tup [.str "take"], by simp -dsimp only [steps, n1, n2, if_false, if_true]; exact List.mem_cons_self, a2, b2, h2, ?_⟩
    unfold d__law_step denOf m__law_step
    simp -dsimp only [src]
    simp -dsimp [e1, e2, ixD, L2.atI, L2.ixN, hw]
theorem step_tape : StepAns a b (.tup [.str "tape"]) L := by
  obtain ⟨x, hx, w, hw, a1, b1, a2, b2, h2, e1, e2⟩ := draw2 h hL
  obtain ⟨s, hs, a3, b3, h3, e3⟩ := one_l a2 b2 h2 [.tup [.str "left"], .tup [.str "right"], .tup [.str "write", x], .tup [.str "expect", x], .tup [.str "right"]] (by simp -dsimp) (by simp -dsimp)
  simp -dsimp only [src] at e1 e2 e3
  have n1 : ("tape" : Str) ≠ "stack" := by decide
  have n2 : ("tape" : Str) ≠ "queue" := by decide
  have n3 : ("tape" : Str) ≠ "ring" := by decide
  refine ⟨s, ?_, a3, b3, h3, ?_⟩
  · simp -dsimp only [steps, n1, n2, n3, if_false, if_true]
    simp -dsimp only [List.mem_cons, List.mem_nil_iff, or_false] at hs
    rcases hs with rfl | rfl | rfl | rfl | rfl
    · simp -dsimp
    · simp -dsimp
    · exact List.mem_append_right _ (List.mem_flatMap.mpr ⟨x, hx, by simp -dsimp⟩)
    · exact List.mem_append_right _ (List.mem_flatMap.mpr ⟨x, hx, by simp -dsimp⟩)
    · simp -dsimp
  · unfold d__law_step denOf m__law_step
    simp -dsimp only [src]
    simp -dsimp [e1, e2, e3, ixD, L2.atI, L2.ixN]
theorem step_heap : StepAns a b (.tup [.str "heap"]) L := by
  obtain ⟨x, hx, w, hw, a1, b1, a2, b2, h2, e1, e2⟩ := draw2 h hL
  simp -dsimp only [src] at e1 e2
  have n1 : ("heap" : Str) ≠ "stack" := by decide
  have n2 : ("heap" : Str) ≠ "queue" := by decide
  have n3 : ("heap" : Str) ≠ "ring" := by decide
  have n4 : ("heap" : Str) ≠ "tape" := by decide
  rcases hw with rfl | hw
  · obtain ⟨s, hs, a3, b3, h3, e3⟩ := one_l a2 b2 h2 [.int (-999), .int (-1), .int 0, .int 3, .int 3, .int 5, .int 999] (by simp -dsimp) (by simp -dsimp)
    simp -dsimp only [src] at e3
    refine ⟨.tup [.str "insert", s], ?_, a3, b3, h3, ?_⟩
    · simp -dsimp only [steps, n1, n2, n3, n4, if_false, if_true]
      refine List.mem_cons_of_mem _ ?_
      simp -dsimp only [List.mem_cons, List.mem_nil_iff, or_false] at hs
      rcases hs with rfl | rfl | rfl | rfl | rfl | rfl | rfl <;> simp -dsimp
    · unfold d__law_step denOf m__law_step
      simp -dsimp only [src]
      simp -dsimp [e1, e2, e3, ixD, L2.atI, L2.ixN]
  · refine ⟨.tup [.str "least"], by simp -dsimp only [steps, n1, n2, n3, n4, if_false, if_true]; exact List.mem_cons_self, a2, b2, h2, ?_⟩
    unfold d__law_step denOf m__law_step
    simp -dsimp only [src]
    simp -dsimp [e1, e2, ixD, L2.atI, L2.ixN, hw]
theorem step_gauge (n : Int) (hn : 0 < n) (hz : n ≤ 1000) (m : D) : StepAns a b (.tup [.str "gauge", .int n, m]) L := by
  obtain ⟨x, hx, w, hw, a1, b1, a2, b2, h2, e1, e2⟩ := draw2 h hL
  have mp : 0 < min n 4 := by omega
  have md : minD [.int n, .int 4] = some (.int (min n 4)) := by
    unfold minD
    by_cases q : 4 < n
    · simp -dsimp [q, Int.min_eq_right (by omega : (4 : Int) ≤ n)]
    · simp -dsimp [q, Int.min_eq_left (by omega : n ≤ (4 : Int))]
  obtain ⟨i, a3, b3, i0, i1, h3, e3⟩ := take a2 b2 (min n 4) h2 mp (by omega)
  simp -dsimp only [src] at e1 e2 e3
  have n1 : ("gauge" : Str) ≠ "stack" := by decide
  have n2 : ("gauge" : Str) ≠ "queue" := by decide
  have n3 : ("gauge" : Str) ≠ "ring" := by decide
  have n4 : ("gauge" : Str) ≠ "tape" := by decide
  have n5 : ("gauge" : Str) ≠ "heap" := by decide
  have im : i.toNat ∈ List.range (min n 4).toNat := List.mem_range.mpr (by omega)
  have ie : ((i.toNat : Nat) : Int) = i := by omega
  rcases hw with rfl | hw
  · refine ⟨.tup [.str "add", .int (1 + i)], ?_, a3, b3, h3, ?_⟩
    · simp -dsimp only [steps, n1, n2, n3, n4, n5, if_false, if_true]
      exact List.mem_flatMap.mpr ⟨i.toNat, im, by rw [ie]; simp -dsimp⟩
    · unfold d__law_step denOf m__law_step
      simp -dsimp only [src]
      simp -dsimp [e1, e2, e3, ixD, L2.atI, L2.ixN, intD, md, addD]
  · refine ⟨.tup [.str "sub", .int (1 + i)], ?_, a3, b3, h3, ?_⟩
    · simp -dsimp only [steps, n1, n2, n3, n4, n5, if_false, if_true]
      exact List.mem_flatMap.mpr ⟨i.toNat, im, by rw [ie]; simp -dsimp⟩
    · unfold d__law_step denOf m__law_step
      simp -dsimp only [src]
      simp -dsimp [e1, e2, e3, ixD, L2.atI, L2.ixN, intD, md, addD, hw]
theorem step_table : StepAns a b (.tup [.str "table"]) L := by
  obtain ⟨x, hx, w, hw, a1, b1, a2, b2, h2, e1, e2⟩ := draw2 h hL
  obtain ⟨nm, hnm, a3, b3, h3, e3⟩ := one_l a2 b2 h2 [.str "n", .str "m", .str "name"] (by simp -dsimp) (by simp -dsimp)
  obtain ⟨s, hs, a4, b4, h4, e4⟩ := one_l a3 b3 h3 [.tup [.str "set", nm, x], .tup [.str "clear", nm], .tup [.str "expect", nm, x], .tup [.str "absent", nm]] (by simp -dsimp) (by simp -dsimp)
  simp -dsimp only [src] at e1 e2 e3 e4
  have n1 : ("table" : Str) ≠ "stack" := by decide
  have n2 : ("table" : Str) ≠ "queue" := by decide
  have n3 : ("table" : Str) ≠ "ring" := by decide
  have n4 : ("table" : Str) ≠ "tape" := by decide
  have n5 : ("table" : Str) ≠ "heap" := by decide
  have n6 : ("table" : Str) ≠ "gauge" := by decide
  refine ⟨s, ?_, a4, b4, h4, ?_⟩
  · simp -dsimp only [steps, n1, n2, n3, n4, n5, n6, if_false]
    obtain ⟨z, hz, rfl⟩ : ∃ z ∈ (["n", "m", "name"] : List Str), nm = .str z := by
      simp -dsimp only [List.mem_cons, List.mem_nil_iff, or_false] at hnm
      rcases hnm with rfl | rfl | rfl
      · exact ⟨"n", by simp, rfl⟩
      · exact ⟨"m", by simp, rfl⟩
      · exact ⟨"name", by simp, rfl⟩
    refine List.mem_flatMap.mpr ⟨z, hz, ?_⟩
    simp -dsimp only [List.mem_cons, List.mem_nil_iff, or_false] at hs
    rcases hs with rfl | rfl | rfl | rfl
    · exact List.mem_append_right _ (List.mem_flatMap.mpr ⟨x, hx, by simp -dsimp⟩)
    · simp -dsimp
    · exact List.mem_append_right _ (List.mem_flatMap.mpr ⟨x, hx, by simp -dsimp⟩)
    · simp -dsimp
  · unfold d__law_step denOf m__law_step
    simp -dsimp only [src]
    simp -dsimp [e1, e2, e3, e4, ixD, L2.atI, L2.ixN]
theorem step {k : D} (hk : k ∈ kinds) : StepAns a b k L := by
  simp -dsimp only [kinds, simples, List.mem_append, List.mem_map, List.mem_flatMap, List.mem_cons, List.mem_nil_iff, or_false] at hk
  rcases hk with (⟨x, hx, rfl⟩ | ⟨i, hi, m, hm, rfl⟩) | ⟨i, hi, m, hm, rfl⟩
  · rcases hx with rfl | rfl | rfl | rfl | rfl
    · exact step_stack h hL
    · exact step_queue h hL
    · exact step_tape h hL
    · exact step_heap h hL
    · exact step_table h hL
  · exact step_ring h hL _ _
  · exact step_gauge h hL i (by omega) (by omega) _
end
theorem letAB : Let ab := ⟨by simp -dsimp [ab], by simp -dsimp [ab], fun _ h => h⟩
theorem letA : Let [.str "a"] := ⟨by simp, by simp, fun x h => by simp -dsimp only [List.mem_cons, List.mem_nil_iff, or_false] at h; subst h; simp -dsimp [ab]⟩
end K84

set_option maxRecDepth 100000
set_option maxHeartbeats 4000000
/-! comprehensions, step by step -/
namespace DL
open PySem
section
variable {g : MG} {t : MT} {el : ME} {vs : List Nat} {l0 r l : List D} {ρ : Env} {d : D} {s : Option Nat} {mi : Env → R (List D)}
@[simp] theorem c_nil : compM g t el vs none l0 [] ρ = .ok [] ρ := rfl
@[simp] theorem c_cons : compM g t el vs none l0 (d :: r) ρ = match g d ρ with
    | none => .bad
    | some ρ1 => match t ρ1 with
      | .ok true ρ2 => match el ρ2 with
        | .ok y ρ3 => match compM g t el vs none l0 r (wipeE ρ3 vs) with
          | .ok ys ρ4 => .ok (y :: ys) ρ4
          | _ => .bad
        | _ => .bad
      | .ok false ρ2 => compM g t el vs none l0 r (wipeE ρ2 vs)
      | _ => .bad := rfl
def k_c_comp1 (g : MG) (t : MT) (el : ME) (vs : List Nat) (s : Option Nat) : List D → Env → R C := fun l ρ1 =>   if l.length ≤ 1000000 then match compM g t el vs s l l (wipeE ρ1 vs) with
      | .ok ys ρ2 => .ok (.lst ys) (joinE ρ1 ρ2 vs)
      | _ => .bad
    else .bad
@[simp] theorem k_c_comp1_eq {g : MG} {t : MT} {el : ME} {vs : List Nat} {s : Option Nat} {l : List D} {ρ1 : Env} : k_c_comp1 g t el vs s l ρ1 =   if l.length ≤ 1000000 then match compM g t el vs s l l (wipeE ρ1 vs) with
      | .ok ys ρ2 => .ok (.lst ys) (joinE ρ1 ρ2 vs)
      | _ => .bad
    else .bad := rfl
@[simp] theorem c_comp : mComp mi s g t el vs ρ = (mi ρ).bind (k_c_comp1 g t el vs s) := rfl
def k_e_range11  : D → Env → R (List D) := fun d ρ1 => match d with
  | .int j => if -(2 ^ 62) ≤ j ∧ j < 2 ^ 62 then .ok (rngD 0 j.toNat) ρ1 else .bad
  | _ => .bad
@[simp] theorem k_e_range11_eq  {d : D} {ρ1 : Env} : k_e_range11  d ρ1 = match d with
  | .int j => if -(2 ^ 62) ≤ j ∧ j < 2 ^ 62 then .ok (rngD 0 j.toNat) ρ1 else .bad
  | _ => .bad := rfl
@[simp] theorem e_range1 {me : ME} : iRange1 me ρ = (me ρ).bind (k_e_range11) := rfl
@[simp] theorem e_app0 {i : Nat} {me : ME} : mApp0 i me ρ = match qVar i ρ with
  | some (.lst _) => mApp i me ρ
  | _ => .bad := rfl
def k_e_app1 (i : Nat) : D → Env → R Fl := fun d ρ1 => match qVar i ρ1 with
  | some (.lst l) => if l.length < sizeLine then .ok .nx (ρ1.set i (some (.lst (l ++ [d])))) else .bad
  | _ => .bad
@[simp] theorem k_e_app1_eq {i : Nat} {d : D} {ρ1 : Env} : k_e_app1 i d ρ1 = match qVar i ρ1 with
  | some (.lst l) => if l.length < sizeLine then .ok .nx (ρ1.set i (some (.lst (l ++ [d])))) else .bad
  | _ => .bad := rfl
@[simp] theorem e_app {i : Nat} {me : ME} : mApp i me ρ = (me ρ).bind (k_e_app1 i) := rfl
end
end DL

set_option maxRecDepth 100000
set_option maxHeartbeats 4000000
namespace K84
open PySem DL
def bigOf (c : Int) : Int := if -1 - c > c then -1 - c else c
theorem big_pos (c : Int) : 0 ≤ bigOf c := by unfold bigOf; split <;> omega
def srcA (e c : Int) : Int := bigOf c * (if e ≤ bigOf c then 1 else 0)
def srcB (c k : Int) : Int := (bigOf c % 2147483629 + 7919 * k * k + 31 * k + 17) * 48271 % 2147483647
theorem src_ok (e c k : Int) : Ok (srcA e c) (srcB c k) := by
  have h := big_pos c
  refine ⟨?_, ?_, ?_⟩
  · unfold srcA
    split
    · rw [Int.mul_one]; exact h
    · rw [Int.mul_zero]; exact Int.le_refl 0
  · exact Int.emod_nonneg _ (by decide)
  · exact Int.emod_lt_of_pos _ (by decide)
theorem pw18 : ∃ e, powD (.int 10) (.int 18) = some (.int e) := ⟨1000000000000000000, by kernel_rfl⟩
theorem mx2 (c : Int) : maxD [.int c, .int (-1 - c)] = some (.int (bigOf c)) := rfl
theorem m_bool (z : Int) (p : Prop) [Decidable p] : L2.CMul z (if p then 1 else 0) := by unfold L2.CMul; split <;> simp -dsimp
theorem m_const (z : Int) : L2.CMul z 48271 := by unfold L2.CMul; omega
theorem pool (ns : List Int) (k : Int) (h0 : 0 ≤ k) (hk : k ≤ 2) : ∃ a b, Ok a b ∧ d__law_pool [.v (.lst (ns.map .int)), .v (.int k)] = .ok (src a b) [some (.v (.lst (ns.map .int))), some (.v (.int k))] := by
  have m1 : L2.CMul 7919 k := by unfold L2.CMul; omega
  have m2 : L2.CMul (7919 * k) k := by unfold L2.CMul; omega
  have m3 : L2.CMul 31 k := by unfold L2.CMul; omega
  obtain ⟨e, pw⟩ := pw18
  have gt : ∀ c : Int, geD (.int (bigOf c)) (.int e) = some (.bl (decide (e ≤ bigOf c))) := fun c => rfl
  have bi : ∀ c : Int, intD [.bl (decide (e ≤ bigOf c))] = some (.int (if e ≤ bigOf c then 1 else 0)) := fun c => by unfold intD; simp -dsimp
  have sb : ∀ c : Int, subD (.int (-1)) (.int c) = some (.int (-1 - c)) := fun c => rfl
  have it : ∀ c : Int, intD [.int c] = some (.int c) := fun c => rfl
  by_cases hl : k < ns.length
  · obtain ⟨x, hx, ex⟩ := atI_mem (l := ns.map D.int) h0 (by simpa using hl)
    obtain ⟨c, _, rfl⟩ := List.mem_map.mp hx
    refine ⟨srcA e c, srcB c k, src_ok _ _ k, ?_⟩
    unfold d__law_pool denOf m__law_pool srcA srcB
    simp -dsimp [ltD, gt, lenD, hl, ixD, ex, it, bi, mx2, sb, mulD, addD, modD, pw, m1, m2, m3, m_const, m_bool, src]
  · refine ⟨srcA e 0, srcB 0 k, src_ok _ _ k, ?_⟩
    unfold d__law_pool denOf m__law_pool srcA srcB
    have m0 := mx2 0
    simp -dsimp only [Int.sub_zero] at m0
    have b0 : bigOf 0 = 0 := by decide
    simp -dsimp only [b0] at m0 gt bi ⊢
    have gt0 : geD (.int 0) (.int e) = some (.bl (decide (e ≤ 0))) := rfl
    have bi0 : intD [.bl (decide (e ≤ 0))] = some (.int (if e ≤ 0 then 1 else 0)) := by unfold intD; simp -dsimp
    have mm : L2.CMul 0 (if e ≤ 0 then 1 else 0) := m_bool _ _
    simp -dsimp [ltD, gt0, lenD, hl, it, bi0, m0, subD, mulD, addD, modD, pw, m1, m2, m3, m_const, mm, src]
theorem listRg_of {z : Int} (h0 : 0 ≤ z) (h1 : z ≤ 3) : listRgD (.int z) = some (.lst (rngD 0 z.toNat)) := by
  exact if_pos ⟨h0, by omega⟩
theorem rounds (ns : List Int) : ∃ m : Nat, m ≤ 3 ∧ d__law_rounds [.v (.lst (ns.map .int)), .v (.int 3)] = .ok (.v (.lst (rngD 0 m))) [some (.v (.lst (ns.map .int))), some (.v (.int 3))] := by
  have mx : ∀ i j : Int, ∃ z, maxD [.int i, .int j] = some (.int z) ∧ (z = i ∨ z = j) := fun i j => ⟨if j > i then j else i, rfl, by split <;> simp -dsimp⟩
  have mn : ∀ i j : Int, ∃ z, minD [.int i, .int j] = some (.int z) ∧ (z = i ∨ z = j) ∧ z ≤ j := fun i j => ⟨if j < i then j else i, rfl, by split <;> simp, by split <;> omega⟩
  obtain ⟨z1, e1, h1, g1⟩ := mn ns.length 3
  obtain ⟨z2, e2, h2⟩ := mx 1 z1
  have b0 : 0 ≤ z2 ∧ z2 ≤ 3 := by omega
  refine ⟨z2.toNat, by omega, ?_⟩
  have e3 := listRg_of b0.1 b0.2
  unfold d__law_rounds denOf m__law_rounds
  simp -dsimp [lenD, e1, e2, e3]
end K84

set_option maxRecDepth 100000
set_option maxHeartbeats 4000000
namespace K84
open PySem DL
def nms : List Str := ["s", "q", "copy"]
def pairD (p : Str × D) : D := .tup [.str p.1, p.2]
structure Boxy (ps : List (Str × D)) : Prop where
  nm : ∃ m, 1 ≤ m ∧ m ≤ 3 ∧ ps.map (·.1) = nms.take m
  kd : ∀ p ∈ ps, p.2 ∈ kinds
theorem pairs (a b : Int) (h : Ok a b) : ∃ ps, Boxy ps ∧ ∃ a' b', Ok a' b' ∧ d__law_pairs [src a b, .v (.int 3)] = .ok (.v (.tup (ps.map pairD))) [some (src a' b'), some (.v (.int 3))] := by
  obtain ⟨i, a1, b1, i0, i1, h1, e1⟩ := take a b 3 h (by omega) (by omega)
  obtain ⟨k1, hk1, a2, b2, h2, e2⟩ := kind a1 b1 h1
  have c1 : cutD [D.str "s", .str "q", .str "copy", .str "z"] none (some 1) = [.str "s"] := by kernel_rfl
  have c2 : cutD [D.str "s", .str "q", .str "copy", .str "z"] none (some 2) = [.str "s", .str "q"] := by kernel_rfl
  have c3 : cutD [D.str "s", .str "q", .str "copy", .str "z"] none (some 3) = [.str "s", .str "q", .str "copy"] := by kernel_rfl
  have i3 : i = 0 ∨ i = 1 ∨ i = 2 := by omega
  simp -dsimp only [src] at e1 e2
  rcases i3 with rfl | rfl | rfl
  · refine ⟨[("s", k1)], ⟨⟨1, by omega, by omega, rfl⟩, by simp -dsimp [hk1]⟩, a2, b2, h2, ?_⟩
    unfold d__law_pairs denOf m__law_pairs
    simp -dsimp only [src]
    simp -dsimp [e1, e2, addD, slD, c1, wipeE, joinE, tupleD, pairD]
  · obtain ⟨k2, hk2, a3, b3, h3, e3⟩ := kind a2 b2 h2
    simp -dsimp only [src] at e3
    refine ⟨[("s", k1), ("q", k2)], ⟨⟨2, by omega, by omega, rfl⟩, by simp -dsimp [hk1, hk2]⟩, a3, b3, h3, ?_⟩
    unfold d__law_pairs denOf m__law_pairs
    simp -dsimp only [src]
    simp -dsimp [e1, e2, e3, addD, slD, c2, wipeE, joinE, tupleD, pairD]
  · obtain ⟨k2, hk2, a3, b3, h3, e3⟩ := kind a2 b2 h2
    obtain ⟨k3, hk3, a4, b4, h4, e4⟩ := kind a3 b3 h3
    simp -dsimp only [src] at e3 e4
    refine ⟨[("s", k1), ("q", k2), ("copy", k3)], ⟨⟨3, by omega, by omega, rfl⟩, by simp -dsimp [hk1, hk2, hk3]⟩, a4, b4, h4, ?_⟩
    unfold d__law_pairs denOf m__law_pairs
    simp -dsimp only [src]
    simp -dsimp [e1, e2, e3, e4, addD, slD, c3, wipeE, joinE, tupleD, pairD]
end K84

set_option maxRecDepth 100000
set_option maxHeartbeats 4000000
/-! dicts of texts, as lists of pairs -/
namespace DL
open PySem
open L2 (Key)
def ksOf (xs : List (Str × D)) : List Key := xs.map fun p => .inr p.1
def vsOf (xs : List (Str × D)) : List D := xs.map (·.2)
theorem ks_app {xs ys : List (Str × D)} : ksOf (xs ++ ys) = ksOf xs ++ ksOf ys := List.map_append
theorem vs_app {xs ys : List (Str × D)} : vsOf (xs ++ ys) = vsOf xs ++ vsOf ys := List.map_append
theorem zip_kv : ∀ {xs : List (Str × D)}, (ksOf xs).zip (vsOf xs) = xs.map fun p => (.inr p.1, p.2)
  | [] => rfl
  | p :: r => by
    show _ :: ((ksOf r).zip (vsOf r)) = _
    rw [zip_kv]; rfl
theorem put_new {xs : List (Str × D)} {k : Str} {d : D} (h : k ∉ xs.map (·.1)) : putD (ksOf xs) (vsOf xs) (.inr k) d = (ksOf (xs ++ [(k, d)]), vsOf (xs ++ [(k, d)])) := by
  have e : (ksOf xs).any (fun x => decide (x = .inr k)) = false := by
    rw [List.any_eq_false]
    intro x hx
    obtain ⟨p, hp, rfl⟩ := List.mem_map.mp hx
    simp -dsimp only [decide_eq_true_eq]
    intro z
    injection z with z
    exact h (List.mem_map.mpr ⟨p, hp, z⟩)
  unfold putD
  rw [e, ks_app, vs_app]
  rfl
theorem valK_none {xs : List (Str × D)} {k : Str} (h : k ∉ xs.map (·.1)) : valK (ksOf xs) (vsOf xs) (.inr k) = none := by
  unfold valK
  rw [zip_kv]
  have : (xs.map fun p => ((.inr p.1 : Key), p.2)).find? (fun kv => decide (kv.1 = .inr k)) = none := by
    rw [List.find?_eq_none]
    intro x hx
    obtain ⟨p, hp, rfl⟩ := List.mem_map.mp hx
    simp -dsimp only [decide_eq_true_eq]
    intro z
    injection z with z
    exact h (List.mem_map.mpr ⟨p, hp, z⟩)
  rw [this]; rfl
theorem valK_mem : ∀ {xs : List (Str × D)} {k : Str} {d : D}, (xs.map (·.1)).Nodup → (k, d) ∈ xs → valK (ksOf xs) (vsOf xs) (.inr k) = some d
  | [], _, _, _, h => by cases h
  | (k0, d0) :: r, k, d, hn, h => by
    rw [List.map_cons, List.nodup_cons] at hn
    unfold valK
    rw [zip_kv, List.map_cons]
    rcases List.mem_cons.mp h with e | h
    · cases e
      rw [List.find?_cons_of_pos (by simp -dsimp)]; rfl
    · have hne : k0 ≠ k := fun z => hn.1 (z ▸ List.mem_map.mpr ⟨(k, d), h, rfl⟩)
      rw [List.find?_cons_of_neg (by simpa using hne)]
      have := valK_mem hn.2 h
      unfold valK at this
      rw [zip_kv] at this
      exact this
def prD (p : Str × D) : D := .tup [.str p.1, p.2]
theorem pairs_pr : ∀ {xs : List (Str × D)}, pairsD (xs.map prD) = some (xs.map fun p => (.inr p.1, p.2))
  | [] => rfl
  | p :: r => by
    show (match keyD (.str p.1), pairsD (r.map prD) with
      | some kk, some l => some ((kk, p.2) :: l)
      | _, _ => none) = _
    rw [pairs_pr]; rfl
theorem merge_new : ∀ {xs acc : List (Str × D)}, ((acc ++ xs).map (·.1)).Nodup → mergeD (xs.map fun p => (.inr p.1, p.2)) (ksOf acc, vsOf acc) = (ksOf (acc ++ xs), vsOf (acc ++ xs))
  | [], acc, _ => by rw [List.append_nil]; rfl
  | p :: r, acc, h => by
    have hk : p.1 ∉ acc.map (·.1) := by
      rw [List.map_append, List.map_cons, List.nodup_append] at h
      exact fun z => h.2.2 _ z _ List.mem_cons_self rfl
    show mergeD (r.map fun p => (.inr p.1, p.2)) (putD (ksOf acc) (vsOf acc) (.inr p.1) p.2) = _
    rw [put_new hk, merge_new (by rw [List.append_assoc]; exact h), List.append_assoc]; rfl
theorem dict_pr {xs : List (Str × D)} (h : (xs.map (·.1)).Nodup) : dictD (.lst (xs.map prD)) = some (.dic (ksOf xs) (vsOf xs)) := by
  have := merge_new (xs := xs) (acc := []) (by simpa using h)
  show (pairsD (xs.map prD)).map (fun kds => D.dic (mergeD kds ([], [])).1 (mergeD kds ([], [])).2) = _
  rw [pairs_pr, Option.map_some]
  have e : (([], []) : List Key × List D) = (ksOf [], vsOf []) := rfl
  rw [e, this]; rfl
section
variable {g : MG} {body : MS} {d : D} {r : List D} {ρ : Env}
@[simp] theorem for_nil : forM g body [] ρ = .ok .nx ρ := rfl
def k_for_cons1 (g : MG) (body : MS) (r : List D) : Fl → Env → R Fl := fun f ρ2 => match f with
      | .nx => forM g body r ρ2
      | .ct => forM g body r ρ2
      | .bk => .ok .nx ρ2
      | .ret c => .ok (.ret c) ρ2
@[simp] theorem k_for_cons1_eq {g : MG} {body : MS} {r : List D} {f : Fl} {ρ2 : Env} : k_for_cons1 g body r f ρ2 = match f with
      | .nx => forM g body r ρ2
      | .ct => forM g body r ρ2
      | .bk => .ok .nx ρ2
      | .ret c => .ok (.ret c) ρ2 := rfl
@[simp] theorem for_cons : forM g body (d :: r) ρ = match g d ρ with
    | none => .bad
    | some ρ1 => (body ρ1).bind (k_for_cons1 g body r) := rfl
end
mutual
theorem same_refl : ∀ d : D, same d d = true
  | .non => rfl
  | .bl b => by simp -dsimp [same]
  | .int i => by simp -dsimp [same]
  | .str x => by simp -dsimp [same]
  | .tup l => by simp -dsimp [same, sames_refl l]
  | .lst l => by simp -dsimp [same, sames_refl l]
  | .dic ks l => by simp -dsimp [same, sames_refl l]
  | .ins c ns l => by simp -dsimp [same, sames_refl l]
theorem sames_refl : ∀ l : List D, sames l l = true
  | [] => rfl
  | d :: l => by simp -dsimp [sames, same_refl d, sames_refl l]
end
section
variable {g : MG} {t : MT} {el : ME} {vs : List Nat} {l0 r : List D} {ρ : Env} {d : D} {k : Nat}
theorem chk_ok (h : ρ[k]? = some (some (.lst l0))) : chkS (some k) l0 ρ = true := by
  show (match ρ[k]?.join with
    | some (.lst l') => sames l' l0
    | _ => false) = true
  rw [h]
  exact sames_refl l0
theorem c_nil_s (h : ρ[k]? = some (some (.lst l0))) : compM g t el vs (some k) l0 [] ρ = .ok [] ρ := by
  show (if chkS (some k) l0 ρ = true then _ else _) = _
  rw [if_pos (chk_ok h)]
theorem c_cons_s (h : ρ[k]? = some (some (.lst l0))) : compM g t el vs (some k) l0 (d :: r) ρ = match g d ρ with
    | none => .bad
    | some ρ1 => match t ρ1 with
      | .ok true ρ2 => match el ρ2 with
        | .ok y ρ3 => match compM g t el vs (some k) l0 r (wipeE ρ3 vs) with
          | .ok ys ρ4 => .ok (y :: ys) ρ4
          | _ => .bad
        | _ => .bad
      | .ok false ρ2 => compM g t el vs (some k) l0 r (wipeE ρ2 vs)
      | _ => .bad := by
  show (if chkS (some k) l0 ρ = true then _ else _) = _
  rw [if_pos (chk_ok h)] <;> try rfl
end
end DL

set_option maxRecDepth 100000
set_option maxHeartbeats 4000000
namespace K84
open PySem DL
/-- an act, the boxes ps, the names of the parts ahead -/
inductive Act (ps : List (Str × D)) (ns : List Str) : D → Prop
  | do_ {n : Str} {k s : D} (h : (n, k) ∈ ps) (hs : s ∈ steps k) : Act ps ns (.tup [.str "do", .str n, s])
  | call {n : Str} (h : n ∈ ns) : Act ps ns (.tup [.str "call", .str n])
  | rep {i : Int} {n : Str} (h0 : 1 ≤ i) (h1 : i ≤ 3) (h : n ∈ ns) : Act ps ns (.tup [.str "repeat", .int i, .str n])
/-- parts, one behind another -/
inductive Parts (ps : List (Str × D)) : List Str → List (Str × D) → Prop
  | nil {ns : List Str} : Parts ps ns []
  | cons {ns : List Str} {n : Str} {acts : List D} {r : List (Str × D)} (h : ∀ a ∈ acts, Act ps ns a) (hz : acts.length ≤ 4) (hn : n ∉ ns) (t : Parts ps (ns ++ [n]) r) : Parts ps ns ((n, .tup acts) :: r)
theorem q_do_do : eqD (.str "do") (.str "do") = some (.bl true) := by kernel_rfl
theorem q_call_do : eqD (.str "call") (.str "do") = some (.bl false) := by kernel_rfl
theorem q_call_call : eqD (.str "call") (.str "call") = some (.bl true) := by kernel_rfl
theorem q_rep_do : eqD (.str "repeat") (.str "do") = some (.bl false) := by kernel_rfl
theorem q_rep_call : eqD (.str "repeat") (.str "call") = some (.bl false) := by kernel_rfl
/-- the loop of _law_length -/
theorem len_loop {ps : List (Str × D)} {ns : List Str} {pl : List D} {N : D} {self : Den} (hs : ∀ n ∈ ns, ∃ z, self [.lst pl, .v (.str n)] = .ok (.v (.int z)) [some (.lst pl), some (.v (.str n))]) : ∀ (acts : List D), (∀ a ∈ acts, Act ps ns a) → ∀ (t : Int) (c : Option DL.C),
    ∃ t' c', forM (gN 2 3) (mIfS (mB (mBin eqD (mV (qIx (qVar 3) (qC (.int (0))))) (mV (qC (.str "do"))))) (mSet 2 2 (mBin addD (mV (qVar 2)) (mV (qC (.int (1)))))) (mIfS (mB (mBin eqD (mV (qIx (qVar 3) (qC (.int (0))))) (mV (qC (.str "call"))))) (mSet 2 2 (mBin addD (mV (qVar 2)) (mFrz (mCall 2 self (aCons (aSlot 0) (aCons (aVal (mV (qIx (qVar 3) (qC (.int (1)))))) aNil)))))) (mSet 2 2 (mBin addD (mV (qVar 2)) (mBin mulD (mV (qIx (qVar 3) (qC (.int (1))))) (mFrz (mCall 2 self (aCons (aSlot 0) (aCons (aVal (mV (qIx (qVar 3) (qC (.int (2)))))) aNil)))))))))
      acts [some (.lst pl), some (.v N), some (.v (.int t)), c] = .ok .nx [some (.lst pl), some (.v N), some (.v (.int t')), c']
  | [], _, t, c => ⟨t, c, rfl⟩
  | a :: r, h, t, c => by
    have ih := len_loop (N := N) hs r (fun a ha => h a (List.mem_cons_of_mem _ ha))
    cases h a List.mem_cons_self with
    | do_ hp hst =>
      obtain ⟨t', c', e⟩ := ih (t + 1) (some (.v _))
      refine ⟨t', c', ?_⟩
      simp -dsimp [ixD, L2.atI, L2.ixN, q_do_do, addD]
      exact e
    | call hn =>
      obtain ⟨z, ez⟩ := hs _ hn
      obtain ⟨t', c', e⟩ := ih (t + z) (some (.v _))
      refine ⟨t', c', ?_⟩
      simp -dsimp [ixD, L2.atI, L2.ixN, q_call_do, q_call_call, addD, ez]
      exact e
    | @rep i n h0 h1 hn =>
      obtain ⟨z, ez⟩ := hs _ hn
      have cm : L2.CMul i z := by unfold L2.CMul; omega
      obtain ⟨t', c', e⟩ := ih (t + i * z) (some (.v _))
      refine ⟨t', c', ?_⟩
      simp -dsimp [ixD, L2.atI, L2.ixN, q_rep_do, q_rep_call, addD, mulD, cm, ez]
      exact e
theorem parts_names {ps : List (Str × D)} : ∀ {ns : List Str} {pl : List (Str × D)}, ns.Nodup → Parts ps ns pl → (ns ++ pl.map (·.1)).Nodup
  | ns, _, hn, .nil => by simpa using hn
  | ns, _, hn, .cons h hz hm t => by
    have := parts_names (by rw [List.nodup_append]; exact ⟨hn, by simp, fun a ha b hb => by simp -dsimp at hb; subst hb; exact fun z => hm (z ▸ ha)⟩) t
    simpa using this
/-- parts whose names are before the i-th can be measured with i steps -/
theorem len_at {ps : List (Str × D)} {pl : List (Str × D)} (hn : (pl.map (·.1)).Nodup) (hp : ∀ (i : Nat) (n : Str) (d : D), pl[i]? = some (n, d) → ∃ acts, d = .tup acts ∧ ∀ a ∈ acts, Act ps ((pl.take i).map (·.1)) a) :
    ∀ (f i : Nat), i < f → ∀ (n : Str) (d : D), pl[i]? = some (n, d) → ∃ z, d__law_length f [.lst (pl.map prD), .v (.str n)] = .ok (.v (.int z)) [some (.lst (pl.map prD)), some (.v (.str n))]
  | 0, i, h, _, _, _ => absurd h (Nat.not_lt_zero _)
  | f + 1, i, h, n, d, e => by
    obtain ⟨acts, rfl, ha⟩ := hp i n d e
    have hs : ∀ m ∈ (pl.take i).map (·.1), ∃ z, d__law_length f [.lst (pl.map prD), .v (.str m)] = .ok (.v (.int z)) [some (.lst (pl.map prD)), some (.v (.str m))] := by
      intro m hm
      obtain ⟨q, hq, rfl⟩ := List.mem_map.mp hm
      obtain ⟨j, hj⟩ := List.mem_iff_getElem?.mp hq
      rw [List.getElem?_take] at hj
      split at hj
      · rename_i hlt
        exact len_at hn hp f j (by omega) q.1 q.2 hj
      · cases hj
    obtain ⟨t', c', el⟩ := len_loop (N := .str n) hs acts ha 0 none
    refine ⟨t', ?_⟩
    have hv : valK (ksOf pl) (vsOf pl) (.inr n) = some (.tup acts) := valK_mem hn (List.mem_of_getElem? e)
    show denOf 4 2 (m__law_length (d__law_length f)) _ = _
    unfold denOf m__law_length
    simp -dsimp [dict_pr hn, ixD, keyD, hv, el]
end K84

set_option maxRecDepth 100000
set_option maxHeartbeats 4000000
namespace K84
open PySem DL
/-- what is known of the parts made so far -/
structure Pl (ps : List (Str × D)) (pl : List (Str × D)) : Prop where
  nd : (pl.map (·.1)).Nodup
  ok : ∀ (i : Nat) (n : Str) (d : D), pl[i]? = some (n, d) → ∃ acts, d = .tup acts ∧ ∀ a ∈ acts, Act ps ((pl.take i).map (·.1)) a
  sz : pl.length ≤ 4
  st : ∀ n ∈ pl.map (·.1), PyData.strOk n = true
/-- the short ones -/
theorem short_loop {ps : List (Str × D)} {pl : List (Str × D)} (h : Pl ps pl) (S : DL.C) (P : D) : ∀ (r : List (Str × D)), (∀ q ∈ r, q ∈ pl) →
    ∃ ys : List Str, (∀ y ∈ ys, y ∈ pl.map (·.1)) ∧ ys.length ≤ r.length ∧ compM (gT 2 (gNs (gW 5) (gNs (gW 7) gNs0))) (mB (mBin leD (mFrz (mCall 2 (d__law_length 5) (aCons (aSlot 2) (aCons (aSlot 5) aNil)))) (mV (qC (.int (15)))))) (mV (qVar 5)) [5, 7] (some 2) (pl.map prD) (r.map prD)
      [some S, some (.v P), some (.lst (pl.map prD)), none, none, none, none, none] = .ok (ys.map .str) [some S, some (.v P), some (.lst (pl.map prD)), none, none, none, none, none]
  | [], _ => ⟨[], by simp, by simp, c_nil_s rfl⟩
  | q :: r, hr => by
    obtain ⟨ys, h1, hl, h2⟩ := short_loop h S P r fun z hz => hr z (List.mem_cons_of_mem _ hz)
    obtain ⟨i, hi⟩ := List.mem_iff_getElem?.mp (hr q List.mem_cons_self)
    have hlt : i < 5 := by
      have := (List.getElem?_eq_some_iff.mp hi).1
      have := h.sz
      omega
    obtain ⟨z, ez⟩ := len_at (ps := ps) h.nd h.ok 5 i hlt q.1 q.2 hi
    rw [List.map_cons, c_cons_s rfl]
    by_cases hz : z ≤ 15
    · refine ⟨q.1 :: ys, ?_, by simp -dsimp; omega, ?_⟩
      · intro y hy
        rcases List.mem_cons.mp hy with rfl | hy
        · exact List.mem_map.mpr ⟨q, hr q List.mem_cons_self, rfl⟩
        · exact h1 y hy
      · simp -dsimp [prD, ez, leD, hz, wipeE]
        rw [h2]
    · refine ⟨ys, h1, by simp -dsimp; omega, ?_⟩
      simp -dsimp [prD, ez, leD, hz, wipeE]
      exact h2
theorem dt_strs {ys : List Str} (h : ∀ y ∈ ys, PyData.strOk y = true) : dtB 1 (.lst (ys.map D.str)) = true := by
  rw [dtB_lst, List.all_eq_true]
  intro d hd
  obtain ⟨y, hy, rfl⟩ := List.mem_map.mp hd
  exact h y hy
theorem eq_nil {ys : List Str} (h : ∀ y ∈ ys, PyData.strOk y = true) : eqD (.lst (ys.map D.str)) (.lst []) = some (.bl (decide (ys = []))) := by
  by_cases e : ys = []
  · subst e
    exact (eqD_same 1 (by omega) rfl).trans (by simp -dsimp)
  · rw [eqD_not 1 (by omega) (dt_strs h) rfl (by simpa using e)]
    simp -dsimp [e]
theorem act {a b : Int} (h : Ok a b) {ps : List (Str × D)} (hb : Boxy ps) {pl : List (Str × D)} (hp : Pl ps pl) : ∃ x, Act ps (pl.map (·.1)) x ∧ ∃ a' b', Ok a' b' ∧
    d__law_act [src a b, .v (.tup (ps.map prD)), .lst (pl.map prD)] = .ok (.v x) [some (src a' b'), some (.v (.tup (ps.map prD))), some (.lst (pl.map prD))] := by
  obtain ⟨ys, hys, hyl, ec⟩ := short_loop hp (src a b) (.tup (ps.map prD)) pl fun _ z => z
  obtain ⟨w, a1, b1, w0, w1, h1, e1⟩ := take a b 5 h (by omega) (by omega)
  have eq0 := eq_nil (ys := ys) fun y hy => hp.st y (hys y hy)
  have sz : (pl.map prD).length ≤ 1000000 := by rw [List.length_map]; have := hp.sz; omega
  have sz2 : pl.length ≤ 1000000 := by have := hp.sz; omega
  have pne : ps.map prD ≠ [] := by
    obtain ⟨m, m1, m2, m3⟩ := hb.nm
    intro z
    have : ps = [] := List.map_eq_nil_iff.mp z
    subst this
    have : (nms.take m).length = 0 := by rw [← m3]; rfl
    rw [List.length_take] at this
    simp -dsimp [nms] at this
    omega
  have psz : (ps.map prD).length ≤ 1000 := by
    obtain ⟨m, m1, m2, m3⟩ := hb.nm
    have : (ps.map (·.1)).length ≤ 3 := by rw [m3, List.length_take]; simp -dsimp [nms]; omega
    rw [List.length_map] at this ⊢
    omega
  by_cases c1 : ys = [] ∨ w < 2
  · obtain ⟨x, hx, a2, b2, h2, e2⟩ := one_t a1 b1 h1 (ps.map prD) pne psz
    obtain ⟨q, hq, rfl⟩ := List.mem_map.mp hx
    obtain ⟨s, hs, a3, b3, h3, e3⟩ := step h2 letAB (hb.kd q hq)
    refine ⟨.tup [.str "do", .str q.1, s], .do_ (k := q.2) hq hs, a3, b3, h3, ?_⟩
    simp -dsimp only [src] at ec e1 e2 e3
    simp -dsimp only [ab] at e3
    unfold d__law_act denOf m__law_act
    simp -dsimp only [src]
    by_cases c2 : ys = []
    · subst c2
      simp -dsimp at eq0
      simp -dsimp [iSlot, wipeE, joinE, sz, sz2, ec, e1, e2, e3, eq0, prD]
    · have c3 : w < 2 := c1.resolve_left c2
      simp -dsimp [c2] at eq0
      simp -dsimp [iSlot, wipeE, joinE, sz, sz2, ec, e1, e2, e3, eq0, prD, ltD, c3]
  · have c2 : ys ≠ [] := fun z => c1 (.inl z)
    have c3 : ¬ w < 2 := fun z => c1 (.inr z)
    have yne : ys.map D.str ≠ [] := by simpa using c2
    have ysz : ys.length ≤ 1000 := by have := hp.sz; omega
    simp -dsimp [c2] at eq0
    by_cases c4 : w = 2
    · obtain ⟨x, hx, a2, b2, h2, e2⟩ := one_l a1 b1 h1 (ys.map D.str) yne (by simpa using ysz)
      obtain ⟨y, hy, rfl⟩ := List.mem_map.mp hx
      refine ⟨.tup [.str "call", .str y], .call (hys y hy), a2, b2, h2, ?_⟩
      simp -dsimp only [src] at ec e1 e2
      unfold d__law_act denOf m__law_act
      simp -dsimp only [src]
      simp -dsimp [iSlot, wipeE, joinE, sz, sz2, ec, e1, e2, eq0, ltD, c3, c4]
    · obtain ⟨i, a2, b2, i0, i1, h2, e2⟩ := take a1 b1 3 h1 (by omega) (by omega)
      obtain ⟨x, hx, a3, b3, h3, e3⟩ := one_l a2 b2 h2 (ys.map D.str) yne (by simpa using ysz)
      obtain ⟨y, hy, rfl⟩ := List.mem_map.mp hx
      refine ⟨.tup [.str "repeat", .int (1 + i), .str y], .rep (by omega) (by omega) (hys y hy), a3, b3, h3, ?_⟩
      simp -dsimp only [src] at ec e1 e2 e3
      unfold d__law_act denOf m__law_act
      simp -dsimp only [src]
      simp -dsimp [iSlot, wipeE, joinE, sz, sz2, ec, e1, e2, e3, eq0, ltD, c3, c4, addD]
end K84

set_option maxRecDepth 100000
set_option maxHeartbeats 4000000
namespace K84
open PySem DL
theorem call_03 {den : Den} {s t s' t' c : DL.C} {x : D} {e1 e2 e4 e5 e6 : Option DL.C} {z : Option DL.C} (h : den [s, .v x, t] = .ok c [some s', z, some t']) :
    callD den [.sl 0, .d x, .sl 3] [some s, e1, e2, some t, e4, e5, e6] = .ok c [some s', e1, e2, some t', e4, e5, e6] := by
  have ok : okAr [.sl 0, .d x, .sl 3] = true := rfl
  have ar : arsC [some s, e1, e2, some t, e4, e5, e6] none [.sl 0, .d x, .sl 3] = some [s, .v x, t] := rfl
  unfold callD
  rw [ar]
  simp -dsimp only [ok, if_true, h]
  rfl
section
variable {ps : List (Str × D)} (hb : Boxy ps) {pl : List (Str × D)} (hp : Pl ps pl)
include hb hp
theorem acts_loop (e2 e4 e5 : Option DL.C) (l0 : List D) : ∀ (l : List D) (a b : Int), Ok a b → ∃ acts : List D, acts.length = l.length ∧ (∀ x ∈ acts, Act ps (pl.map (·.1)) x) ∧ ∃ a' b', Ok a' b' ∧
    compM (gW 6) tYesM (mFrz (mCall 3 d__law_act (aCons (aSlot 0) (aCons (aSlot 1) (aCons (aSlot 3) aNil))))) [6] none l0 l [some (src a b), some (.v (.tup (ps.map prD))), e2, some (.lst (pl.map prD)), e4, e5, none] =
      .ok acts [some (src a' b'), some (.v (.tup (ps.map prD))), e2, some (.lst (pl.map prD)), e4, e5, none]
  | [], a, b, h => ⟨[], rfl, by simp, a, b, h, rfl⟩
  | d :: l, a, b, h => by
    obtain ⟨x, hx, a1, b1, h1, e1⟩ := act h hb hp
    obtain ⟨acts, q1, q2, a2, b2, h2, q3⟩ := acts_loop e2 e4 e5 l0 l a1 b1 h1
    refine ⟨x :: acts, by simp -dsimp [q1], ?_, a2, b2, h2, ?_⟩
    · intro y hy
      rcases List.mem_cons.mp hy with rfl | hy
      · exact hx
      · exact q2 y hy
    · have cc := call_03 (e1 := some (.v (.tup (ps.map prD)))) (e2 := e2) (e4 := e4) (e5 := e5) (e6 := some (.v d)) e1
      simp -dsimp only [src] at cc q3 ⊢
      simp -dsimp [cc, wipeE]
      rw [q3]
end
/-- one more part -/
theorem pl_more {ps : List (Str × D)} {pl : List (Str × D)} (hp : Pl ps pl) {n : Str} {acts : List D} (hn : n ∉ pl.map (·.1)) (ho : PyData.strOk n = true) (hz : pl.length < 4) (ha : ∀ x ∈ acts, Act ps (pl.map (·.1)) x) : Pl ps (pl ++ [(n, .tup acts)]) where
  nd := by
    rw [List.map_append, List.nodup_append]
    exact ⟨hp.nd, by simp, fun a ha b hb => by simp -dsimp at hb; subst hb; exact fun z => hn (z ▸ ha)⟩
  ok := by
    intro i m d e
    by_cases hi : i < pl.length
    · rw [List.getElem?_append_left hi] at e
      obtain ⟨acts', e1, e2⟩ := hp.ok i m d e
      refine ⟨acts', e1, ?_⟩
      rw [List.take_append_of_le_length (by omega)]
      exact e2
    · rw [List.getElem?_append_right (by omega)] at e
      have hi2 : i - pl.length = 0 := by
        cases q : i - pl.length with
        | zero => rfl
        | succ j => rw [q] at e; simp -dsimp at e
      rw [hi2] at e
      simp -dsimp at e
      obtain ⟨rfl, rfl⟩ := e
      refine ⟨acts, rfl, ?_⟩
      have : i = pl.length := by omega
      subst this
      simpa using ha
  sz := by simp -dsimp; omega
  st := by
    intro m hm
    rw [List.map_append] at hm
    rcases List.mem_append.mp hm with h | h
    · exact hp.st m h
    · simp -dsimp at h
      subst h
      exact ho
end K84

set_option maxRecDepth 100000
set_option maxHeartbeats 4000000
namespace K84
open PySem DL
theorem parts_loop {ps : List (Str × D)} (hb : Boxy ps) : ∀ (rest : List Str) (pl : List (Str × D)), Pl ps pl → (pl.map (·.1) ++ rest).Nodup → (∀ n ∈ rest, PyData.strOk n = true) → pl.length + rest.length ≤ 4 → ∀ (a b : Int), Ok a b → ∀ c4 c5 : Option DL.C,
    ∃ new : List (Str × D), new.map (·.1) = rest ∧ (∀ q ∈ new, ∃ acts, q.2 = .tup acts ∧ acts.length ≤ 4) ∧ Pl ps (pl ++ new) ∧ ∃ a' b' c4' c5', Ok a' b' ∧
      forM (gN 3 4) (mSeq (mSet 3 5 (mFrz (mComp (iRange1 (mFrz (mCall 2 d__law_one (aCons (aSlot 0) (aCons (aVal (mLst (mCons (mV (qC (.int (0)))) (mCons (mV (qC (.int (1)))) (mCons (mV (qC (.int (2)))) (mCons (mV (qC (.int (3)))) (mCons (mV (qC (.int (4)))) (mCons (mV (qC (.int (4)))) mNil)))))))) aNil))))) none (gW 6) tYesM (mFrz (mCall 3 d__law_act (aCons (aSlot 0) (aCons (aSlot 1) (aCons (aSlot 3) aNil))))) [6]))) (mApp0 3 (mTup (mCons (mV (qVar 4)) (mCons (mC1 tupleD (mR (qVar 5))) mNil)))))
        (rest.map .str) [some (src a b), some (.v (.tup (ps.map prD))), some (.v (.int 4)), some (.lst (pl.map prD)), c4, c5, none] =
        .ok .nx [some (src a' b'), some (.v (.tup (ps.map prD))), some (.v (.int 4)), some (.lst ((pl ++ new).map prD)), c4', c5', none]
  | [], pl, hp, _, _, _, a, b, h, c4, c5 => ⟨[], rfl, by simp, by simpa using hp, a, b, c4, c5, h, by rw [List.append_nil]; rfl⟩
  | n :: rest, pl, hp, hd, hs, hz, a, b, h, c4, c5 => by
    obtain ⟨x, hx, a1, b1, h1, e1⟩ := one_l a b h [.int 0, .int 1, .int 2, .int 3, .int 4, .int 4] (by simp -dsimp) (by simp -dsimp)
    obtain ⟨j, j0, j1, rfl⟩ : ∃ j : Int, 0 ≤ j ∧ j ≤ 4 ∧ x = .int j := by
      simp -dsimp only [List.mem_cons, List.mem_nil_iff, or_false] at hx
      rcases hx with rfl | rfl | rfl | rfl | rfl | rfl <;> exact ⟨_, by decide, by decide, rfl⟩
    obtain ⟨acts, q1, q2, a2, b2, h2, q3⟩ := acts_loop hb hp (some (.v (.int 4))) (some (.v (.str n))) c5 (rngD 0 j.toNat) (rngD 0 j.toNat) a1 b1 h1
    rw [rng_len] at q1
    have hn : n ∉ pl.map (·.1) := by
      rw [List.nodup_append] at hd
      exact fun z => hd.2.2 _ z _ List.mem_cons_self rfl
    have hz4 : pl.length < 4 := by simp -dsimp at hz; omega
    have hp' := pl_more hp hn (hs n List.mem_cons_self) hz4 q2
    obtain ⟨new, r1, r2, r3, a3, b3, c4', c5', h3, r4⟩ := parts_loop hb rest (pl ++ [(n, .tup acts)]) hp' (by simpa using hd) (fun m hm => hs m (List.mem_cons_of_mem _ hm)) (by simp -dsimp at hz ⊢; omega) a2 b2 h2 (some (.v (.str n))) (some (.v (.lst acts)))
    refine ⟨(n, .tup acts) :: new, by simp -dsimp [r1], ?_, by simpa using r3, a3, b3, c4', c5', h3, ?_⟩
    · intro q hq
      rcases List.mem_cons.mp hq with rfl | hq
      · exact ⟨acts, rfl, by omega⟩
      · exact r2 q hq
    · have jr : -(2 ^ 62) ≤ j ∧ j < 2 ^ 62 := by omega
      have jl : j.toNat ≤ 1000000 := by omega
      have pz : pl.length < 16777216 := by omega
      simp -dsimp only [src] at e1 q3 r4 ⊢
      simp -dsimp at jr
      simp -dsimp [e1, jr, rng_len, jl, wipeE, joinE, q3, tupleD, pz]
      simpa [prD] using r4
def allN : List Str := ["p", "q", "r", "main"]
theorem parts {a b : Int} (h : Ok a b) {ps : List (Str × D)} (hb : Boxy ps) : ∃ pl : List (Str × D), (∃ m, 1 ≤ m ∧ m ≤ 4 ∧ pl.map (·.1) = allN.drop (4 - m)) ∧ (∀ q ∈ pl, ∃ acts, q.2 = .tup acts ∧ acts.length ≤ 4) ∧ Pl ps pl ∧ ∃ a' b', Ok a' b' ∧
    d__law_parts [src a b, .v (.tup (ps.map prD)), .v (.int 4)] = .ok (.v (.tup (pl.map prD))) [some (src a' b'), some (.v (.tup (ps.map prD))), some (.v (.int 4))] := by
  obtain ⟨i, a1, b1, i0, i1, h1, e1⟩ := take a b 4 h (by omega) (by omega)
  have emp : Pl ps [] := ⟨by simp, fun i n d e => by simp -dsimp at e, by simp, by simp -dsimp⟩
  have key : ∀ m : Nat, 1 ≤ m → m ≤ 4 → cutD [D.str "p", .str "q", .str "r", .str "main"] (some (-(m : Int))) none = (allN.drop (4 - m)).map D.str := by
    intro m m1 m2
    have : m = 1 ∨ m = 2 ∨ m = 3 ∨ m = 4 := by omega
    rcases this with rfl | rfl | rfl | rfl <;> kernel_rfl
  have nd : ∀ m : Nat, (allN.drop (4 - m)).Nodup := fun m => List.Nodup.sublist (List.drop_sublist _ _) (by decide +kernel)
  have so : ∀ (m : Nat), ∀ n ∈ allN.drop (4 - m), PyData.strOk n = true := fun m n hn => by
    have := List.mem_of_mem_drop hn
    simp -dsimp only [allN, List.mem_cons, List.mem_nil_iff, or_false] at this
    rcases this with rfl | rfl | rfl | rfl <;> decide +kernel
  have kk := key (i.toNat + 1) (by omega) (by omega)
  have nd' := nd (i.toNat + 1)
  have so' := so (i.toNat + 1)
  have lz : (allN.drop (4 - (i.toNat + 1))).length ≤ 4 := by simp -dsimp [allN]
  have hm : ∃ m, 1 ≤ m ∧ m ≤ 4 ∧ allN.drop (4 - (i.toNat + 1)) = allN.drop (4 - m) := ⟨i.toNat + 1, by omega, by omega, rfl⟩
  generalize allN.drop (4 - (i.toNat + 1)) = rest at kk nd' so' lz hm
  obtain ⟨new, r1, r2, r3, a3, b3, c4', c5', h3, r4⟩ := parts_loop hb rest [] emp (by simpa using nd') so' (by simpa using lz) a1 b1 h1 none none
  refine ⟨new, by rw [r1]; exact hm, r2, by simpa using r3, a3, b3, h3, ?_⟩
  have ei : (-((i.toNat + 1 : Nat) : Int)) = -1 - i := by omega
  rw [ei] at kk
  simp -dsimp only [src, List.map_nil, List.nil_append] at e1 r4 ⊢
  unfold d__law_parts denOf m__law_parts
  simp -dsimp [e1, subD, slD, kk, r4, tupleD]
end K84

set_option maxRecDepth 100000
set_option maxHeartbeats 4000000
namespace DL
open PySem
open L2 (Key)
section
variable {ρ : Env} {cl : List Addr} {i : Nat} {f : Str} {mv : ME} {mo : MO} {q qk : Env → Option C} {me : ME} {g : MG} {t : MT} {el : ME} {vs : List Nat}
@[simp] theorem e_dic0 : mDic0 ρ = .ok (.dic [] []) ρ := rfl
def k_e_drop1  : C → Env → R Fl := fun v0 ρ1 => .ok .nx ρ1
@[simp] theorem k_e_drop1_eq  {v0 : C} {ρ1 : Env} : k_e_drop1  v0 ρ1 = .ok .nx ρ1 := rfl
@[simp] theorem e_drop : mDrop mo ρ = (mo ρ).bind (k_e_drop1) := rfl
def k_e_fld1 (i : Nat) (cl : List Addr) (f : Str) : C → Env → R Fl := fun d ρ1 => match qVar i ρ1, toF d with
  | some (.ins c ns fs), some w => if c ∈ cl ∧ fs.length < 1000 then .ok .nx (ρ1.set i (some (.ins c (putO f w ns fs).1 (putO f w ns fs).2))) else .bad
  | _, _ => .bad
@[simp] theorem k_e_fld1_eq {i : Nat} {cl : List Addr} {f : Str} {d : C} {ρ1 : Env} : k_e_fld1 i cl f d ρ1 = match qVar i ρ1, toF d with
  | some (.ins c ns fs), some w => if c ∈ cl ∧ fs.length < 1000 then .ok .nx (ρ1.set i (some (.ins c (putO f w ns fs).1 (putO f w ns fs).2))) else .bad
  | _, _ => .bad := rfl
@[simp] theorem e_fld : mFld cl i f mo ρ = (mo ρ).bind (k_e_fld1 i cl f) := rfl
def k_e_putF1 (i : Nat) (qk : Env → Option C) (f : Str) (cl : List Addr) : D → Env → R Fl := fun d ρ1 => match qVar i ρ1, qk ρ1 with
  | some (.ins c ns fs), some (.v k) => match (ns.zip fs).lookup f, keyD k with
    | some (.dic ks vs), some kk => if c ∈ cl ∧ ks.length < sizeLine then .ok .nx (ρ1.set i (some (.ins c ns (setF f (.dic (putD ks vs kk d).1 (putD ks vs kk d).2) ns fs)))) else .bad
    | _, _ => .bad
  | _, _ => .bad
@[simp] theorem k_e_putF1_eq {i : Nat} {qk : Env → Option C} {f : Str} {cl : List Addr} {d : D} {ρ1 : Env} : k_e_putF1 i qk f cl d ρ1 = match qVar i ρ1, qk ρ1 with
  | some (.ins c ns fs), some (.v k) => match (ns.zip fs).lookup f, keyD k with
    | some (.dic ks vs), some kk => if c ∈ cl ∧ ks.length < sizeLine then .ok .nx (ρ1.set i (some (.ins c ns (setF f (.dic (putD ks vs kk d).1 (putD ks vs kk d).2) ns fs)))) else .bad
    | _, _ => .bad
  | _, _ => .bad := rfl
@[simp] theorem e_putF : mPutF cl i f mv qk ρ = (mv ρ).bind (k_e_putF1 i qk f cl) := rfl
@[simp] theorem e_attr : qAttr cl f q ρ = (q ρ).bind (attrC cl f) := rfl
def k_e_enumA1  : D → Env → R (List D) := fun d ρ1 => match d with
  | .lst l => .ok (enumD 0 l) ρ1
  | .tup l => .ok (enumD 0 l) ρ1
  | _ => .bad
@[simp] theorem k_e_enumA1_eq  {d : D} {ρ1 : Env} : k_e_enumA1  d ρ1 = match d with
  | .lst l => .ok (enumD 0 l) ρ1
  | .tup l => .ok (enumD 0 l) ρ1
  | _ => .bad := rfl
@[simp] theorem e_enumA : iEnumA me ρ = (me ρ).bind (k_e_enumA1) := rfl
end
theorem in_dic {xs : List (Str × D)} {k : Str} (h : k ∉ xs.map (·.1)) : inD (.str k) (.dic (ksOf xs) (vsOf xs)) = some (.bl false) := by
  show (((keyD (.str k)).map fun kk => (valK (ksOf xs) (vsOf xs) kk).isSome).map D.bl) = _
  show some (D.bl (valK (ksOf xs) (vsOf xs) (.inr k)).isSome) = _
  rw [valK_none h]; rfl
theorem ks_len {xs : List (Str × D)} : (ksOf xs).length = xs.length := by simp -dsimp [ksOf]
end DL
namespace K84
open PySem DL
def bxF (ps : List (Str × D)) : DL.C := .ins cBoxes ["own_kinds"] [.dic (ksOf ps) (vsOf ps)]
def bx (ps : List (Str × D)) : D := .ins cBoxes ["own_kinds"] [.dic (ksOf ps) (vsOf ps)]
def LetterOk (n : Str) : Prop := ∃ ρ, d_is_letter [.v (.str n)] = .ok (.v (.bl true)) ρ
def KindOk (k : D) : Prop := ∃ ρ, d_is_kind [.v k] = .ok (.v (.bl true)) ρ
theorem boxes_loop (X : D) : ∀ (rest acc : List (Str × D)) (n : Nat) (c2 c3 : Option DL.C), ((acc ++ rest).map (·.1)).Nodup → (∀ p ∈ rest, LetterOk p.1 ∧ KindOk p.2) → acc.length + rest.length ≤ 6 →
    ∃ c2' c3', forM (gT 2 (gNs (gN 2 2) (gNs (gN 2 3) gNs0))) (mSeq (mIfS (mOr (mNot (mB (mFrz (mCall 2 d_is_tuple_of (aCons (aSlot 3) (aCons (aVal (mV (qC (.int (2))))) aNil)))))) (mOr (mNot (mB (mFrz (mCall 1 d_is_letter (aCons (aVal (mV (qIx (qVar 3) (qC (.int (0)))))) aNil))))) (mOr (mB (mBin inD (mV (qIx (qVar 3) (qC (.int (0))))) (mR (qAttr [cBoxes, cProgram] "own_kinds" (qVar 0))))) (mNot (mB (mFrz (mCall 1 d_is_kind (aCons (aVal (mV (qIx (qVar 3) (qC (.int (1)))))) aNil)))))))) (mRaise cNoBoxes "told" (mV (qVar 2))) mSkip) (mPutF [cBoxes, cProgram] 0 "own_kinds" (mV (qIx (qVar 3) (qC (.int (1))))) (qIx (qVar 3) (qC (.int (0)))))) (enumD n (rest.map prD)) [some (bxF acc), some (.v X), c2, c3] = .ok .nx [some (bxF (acc ++ rest)), some (.v X), c2', c3']
  | [], acc, n, c2, c3, _, _, _ => ⟨c2, c3, by rw [List.append_nil]; rfl⟩
  | p :: rest, acc, n, c2, c3, hd, hk, hz => by
    obtain ⟨⟨r1, e1⟩, r2, e2⟩ := hk p List.mem_cons_self
    have hn : p.1 ∉ acc.map (·.1) := by
      rw [List.map_append, List.map_cons, List.nodup_append] at hd
      exact fun z => hd.2.2 _ z _ List.mem_cons_self rfl
    obtain ⟨c2', c3', ih⟩ := boxes_loop X rest (acc ++ [p]) (n + 1) (some (.v (.int (n : Nat)))) (some (.v (prD p))) (by simpa using hd) (fun q hq => hk q (List.mem_cons_of_mem _ hq)) (by simp -dsimp at hz ⊢; omega)
    refine ⟨c2', c3', ?_⟩
    have t2 : d_is_tuple_of [.v (.tup [.str p.1, p.2]), .v (.int 2)] = .ok (.v (.bl true)) [some (.v (.tup [.str p.1, p.2])), some (.v (.int 2))] := by kernel_rfl
    have cm : cBoxes ∈ [cBoxes, cProgram] := by simp -dsimp
    have al : acc.length < 16777216 := by simp -dsimp at hz; omega
    simp -dsimp only [prD, bxF, List.append_assoc, List.singleton_append] at ih ⊢
    simp -dsimp [enumD, prD, t2, ixD, L2.atI, L2.ixN, e1, e2, attrC, frF, in_dic hn, keyD, put_new hn, ks_len, al, setF]
    exact ih
theorem boxes_init {ps : List (Str × D)} (h0 : 1 ≤ ps.length) (h1 : ps.length ≤ 6) (hd : (ps.map (·.1)).Nodup) (hk : ∀ p ∈ ps, LetterOk p.1 ∧ KindOk p.2) :
    ∃ ρ, d_Boxes_init [.ins cBoxes [] [], .v (.tup (ps.map prD))] = .ok (.v .non) (some (bxF ps) :: ρ) := by
  obtain ⟨c2, c3, e⟩ := boxes_loop (.tup (ps.map prD)) ps [] 0 none none (by simpa using hd) hk (by simpa using h1)
  have l1 : d_is_line [.v (.tup (ps.map prD))] = .ok (.v (.bl true)) [some (.v (.tup (ps.map prD)))] := by kernel_rfl
  have q0 : (1 : Int) ≤ ps.length := by omega
  have q1 : (ps.length : Int) ≤ 6 := by omega
  simp -dsimp only [bxF, ksOf, vsOf, List.map_nil, List.nil_append] at e
  refine ⟨[some (.v (.tup (ps.map prD)))], ?_⟩
  unfold d_Boxes_init denOf m_Boxes_init
  simp -dsimp [l1, lenD, leD, h0, h1, q0, q1, toF, putO, e]
  simp -dsimp [bxF, ksOf, vsOf]
end K84

set_option maxRecDepth 100000
set_option maxHeartbeats 4000000
namespace DL
open PySem
theorem eqV_str {x y : Str} : L2.eqV (.str x) (.str y) = decide (x = y) := by
  by_cases h : x = y
  · subst h; simp -dsimp [L2.eqV]
  · simp -dsimp [L2.eqV, h]
theorem inV_strs {n : Str} : ∀ {ns : List Str}, L2.inV (.str n) ((ns.map D.str).map vD) = decide (n ∈ ns)
  | [] => by simp -dsimp [L2.inV]
  | m :: ns => by
    have ih := inV_strs (n := n) (ns := ns)
    unfold L2.inV at ih ⊢
    rw [List.map_cons, List.map_cons, List.any_cons, ih]
    show (L2.eqV (.str m) (.str n) || _) = _
    rw [eqV_str]
    by_cases h : m = n
    · subst h; simp -dsimp
    · have : ¬ n = m := fun z => h z.symm
      simp -dsimp [h, this]
theorem in_lst {n : Str} {ns : List Str} : inD (.str n) (.lst (ns.map D.str)) = some (.bl (decide (n ∈ ns))) := by
  have a : (ns.map D.str).all scalD = true := by
    rw [List.all_eq_true]
    intro d hd
    obtain ⟨x, _, rfl⟩ := List.mem_map.mp hd
    rfl
  show (if scalD (D.str n) = true ∧ (ns.map D.str).all scalD = true then some (L2.inV (vD (.str n)) ((ns.map D.str).map vD)) else none).map D.bl = _
  rw [if_pos ⟨rfl, a⟩]
  show some (D.bl (L2.inV (.str n) _)) = _
  rw [inV_strs]
theorem in_dic_mem {xs : List (Str × D)} {k : Str} {d : D} (hn : (xs.map (·.1)).Nodup) (h : (k, d) ∈ xs) : inD (.str k) (.dic (ksOf xs) (vsOf xs)) = some (.bl true) := by
  show some (D.bl (valK (ksOf xs) (vsOf xs) (.inr k)).isSome) = _
  rw [valK_mem hn h]; rfl
theorem valK_there {xs : List (Str × D)} {k : Str} (h : k ∈ xs.map (·.1)) : (valK (ksOf xs) (vsOf xs) (.inr k)).isSome = true := by
  cases e : valK (ksOf xs) (vsOf xs) (.inr k) with
  | some d => rfl
  | none =>
    unfold valK at e
    rw [zip_kv, Option.map_eq_none_iff, List.find?_eq_none] at e
    obtain ⟨p, hp, rfl⟩ := List.mem_map.mp h
    exact absurd (decide_eq_true rfl) (e _ (List.mem_map.mpr ⟨p, hp, rfl⟩))
theorem in_dic_iff {xs : List (Str × D)} {k : Str} : inD (.str k) (.dic (ksOf xs) (vsOf xs)) = some (.bl (decide (k ∈ xs.map (·.1)))) := by
  show some (D.bl (valK (ksOf xs) (vsOf xs) (.inr k)).isSome) = _
  by_cases h : k ∈ xs.map (·.1)
  · rw [valK_there h, decide_eq_true h]
  · rw [valK_none h, decide_eq_false h]; rfl
end DL
namespace K84
open PySem DL
theorem has_name (ps : List (Str × D)) (n : Str) : ∃ ρ, d_Boxes_has_name [.v (bx ps), .v (.str n)] = .ok (.v (.bl (decide (n ∈ ps.map (·.1))))) ρ := by
  refine ⟨[some (.v (bx ps)), some (.v (.str n))], ?_⟩
  unfold d_Boxes_has_name denOf m_Boxes_has_name
  have i1 : isiT ["str"] [] [cBoxes, cProgram] (.str n) = some true := rfl
  have dd := in_dic_iff (xs := ps) (k := n)
  simp -dsimp only [bx]
  simp -dsimp [i1, attrC, dd]
theorem has_step {ps : List (Str × D)} (hn : (ps.map (·.1)).Nodup) {n : Str} {k : D} (h : (n, k) ∈ ps) (s : D) {b : Bool} (hs : ∃ ρ, d_has_step_form [.v k, .v s] = .ok (.v (.bl b)) ρ) : ∃ ρ, d_Boxes_has_step [.v (bx ps), .v (.tup [.str n, s])] = .ok (.v (.bl b)) ρ := by
  obtain ⟨ρ, e⟩ := hs
  obtain ⟨ρ', e'⟩ := has_name ps n
  have mem : n ∈ ps.map (·.1) := List.mem_map.mpr ⟨_, h, rfl⟩
  rw [decide_eq_true mem] at e'
  have t2 : d_is_tuple_of [.v (.tup [.str n, s]), .v (.int 2)] = .ok (.v (.bl true)) [some (.v (.tup [.str n, s])), some (.v (.int 2))] := by kernel_rfl
  have vk := valK_mem hn h
  have rc : recvOk cBoxes "has_name" (.d (bx ps)) [some (.v (bx ps)), some (.v (.tup [.str n, s]))] = true := by kernel_rfl
  have rc2 : recvOk cBoxes "has_name" (.sl 0) [some (.v (bx ps)), some (.v (.tup [.str n, s]))] = true := by kernel_rfl
  refine ⟨[some (.v (bx ps)), some (.v (.tup [.str n, s]))], ?_⟩
  unfold d_Boxes_has_step denOf m_Boxes_has_step
  simp -dsimp only [bx] at e' rc rc2 ⊢
  simp -dsimp [t2, rc, rc2, ixD, L2.atI, L2.ixN, e', attrC, keyD, vk, e]
theorem is_act {ps : List (Str × D)} (hn : (ps.map (·.1)).Nodup) (hk : ∀ p ∈ ps, p.2 ∈ kinds) {ns : List Str} {a : D} (h : Act ps ns a) : ∃ ρ, d_is_act [.v (bx ps), .v (.lst (ns.map .str)), .v a] = .ok (.v (.bl true)) ρ := by
  cases h with
  | @do_ n k s h hs =>
    obtain ⟨ρ, e⟩ := has_step hn h s (step_form (hk _ h) hs)
    refine ⟨[some (.v (bx ps)), some (.v (.lst (ns.map .str))), some (.v (.tup [.str "do", .str n, s]))], ?_⟩
    have rc : recvOk cBoxes "has_step" (.d (bx ps)) [some (.v (bx ps)), some (.v (.lst (ns.map .str))), some (.v (.tup [.str "do", .str n, s]))] = true := by kernel_rfl
    have i1 : isiT ["tuple"] [] [cBoxes, cProgram] (.tup [.str "do", .str n, s]) = some true := rfl
    have i2 : isiT ["str"] [] [cBoxes, cProgram] (.str "do") = some true := rfl
    have ni : niD (.int 3) (.tup [.int 2, .int 3]) = some (.bl false) := by kernel_rfl
    have sl : slD (.tup [.str "do", .str n, s]) (some 1) none = some (.tup [.str n, s]) := by kernel_rfl
    unfold d_is_act denOf m_is_act
    simp -dsimp only [bx] at e rc ⊢
    simp -dsimp [i1, i2, lenD, ni, ixD, L2.atI, L2.ixN, q_do_do, sl, rc, e]
  | @call n h =>
    refine ⟨[some (.v (bx ps)), some (.v (.lst (ns.map .str))), some (.v (.tup [.str "call", .str n]))], ?_⟩
    have i1 : isiT ["tuple"] [] [cBoxes, cProgram] (.tup [.str "call", .str n]) = some true := rfl
    have i2 : isiT ["str"] [] [cBoxes, cProgram] (.str "call") = some true := rfl
    have i3 : isiT ["str"] [] [cBoxes, cProgram] (.str n) = some true := rfl
    have ni : niD (.int 2) (.tup [.int 2, .int 3]) = some (.bl false) := by kernel_rfl
    have inn := in_lst (n := n) (ns := ns)
    rw [decide_eq_true h] at inn
    have oo : ∃ ρ, d_is_one_of [.v (.str n), .v (.lst (ns.map .str))] = .ok (.v (.bl true)) ρ := by
      refine ⟨[some (.v (.str n)), some (.v (.lst (ns.map .str)))], ?_⟩
      unfold d_is_one_of denOf m_is_one_of
      simp -dsimp [i3, inn]
    obtain ⟨ρ, oe⟩ := oo
    unfold d_is_act denOf m_is_act
    simp -dsimp only [bx]
    simp -dsimp [i1, i2, lenD, ni, ixD, L2.atI, L2.ixN, q_call_do, q_call_call, oe]
  | @rep i n h0 h1 h =>
    refine ⟨[some (.v (bx ps)), some (.v (.lst (ns.map .str))), some (.v (.tup [.str "repeat", .int i, .str n]))], ?_⟩
    have i1 : isiT ["tuple"] [] [cBoxes, cProgram] (.tup [.str "repeat", .int i, .str n]) = some true := rfl
    have i2 : isiT ["str"] [] [cBoxes, cProgram] (.str "repeat") = some true := rfl
    have i3 : isiT ["str"] [] [cBoxes, cProgram] (.str n) = some true := rfl
    have ni : niD (.int 3) (.tup [.int 2, .int 3]) = some (.bl false) := by kernel_rfl
    have q3 : neD (.str "repeat") (.str "repeat") = some (.bl false) := by kernel_rfl
    have q4 : neD (.int 3) (.int 3) = some (.bl false) := by kernel_rfl
    have inn := in_lst (n := n) (ns := ns)
    rw [decide_eq_true h] at inn
    have oo : ∃ ρ, d_is_one_of [.v (.str n), .v (.lst (ns.map .str))] = .ok (.v (.bl true)) ρ := by
      refine ⟨[some (.v (.str n)), some (.v (.lst (ns.map .str)))], ?_⟩
      unfold d_is_one_of denOf m_is_one_of
      simp -dsimp [i3, inn]
    obtain ⟨ρ, oe⟩ := oo
    have i123 : i = 1 ∨ i = 2 ∨ i = 3 := by omega
    have nn : ∃ ρ, d_is_number [.v (.int i), .v (.int 1), .v (.int 1000000000000)] = .ok (.v (.bl true)) ρ := by
      rcases i123 with rfl | rfl | rfl <;> exact isT_ok (by decide +kernel)
    obtain ⟨ρ2, ne⟩ := nn
    unfold d_is_act denOf m_is_act
    simp -dsimp only [bx]
    simp -dsimp [i1, i2, lenD, ni, ixD, L2.atI, L2.ixN, q_rep_do, q_rep_call, q3, q4, oe, ne]
theorem part_loop {ps : List (Str × D)} (hn : (ps.map (·.1)).Nodup) (hk : ∀ p ∈ ps, p.2 ∈ kinds) {ns : List Str} (P : D) (l0 : List D) : ∀ (acts : List D), (∀ a ∈ acts, Act ps ns a) →
    compM (gW 3) tYesM (mFrz (mCall 3 d_is_act (aCons (aSlot 0) (aCons (aSlot 1) (aCons (aSlot 3) aNil))))) [3] none l0 acts [some (.v (bx ps)), some (.v (.lst (ns.map .str))), some (.v P), none] =
      .ok (acts.map fun _ => .bl true) [some (.v (bx ps)), some (.v (.lst (ns.map .str))), some (.v P), none]
  | [], _ => rfl
  | a :: r, h => by
    obtain ⟨ρ, e⟩ := is_act hn hk (h a List.mem_cons_self)
    have ih := part_loop hn hk (ns := ns) P l0 r fun z hz => h z (List.mem_cons_of_mem _ hz)
    simp -dsimp only [bx] at e ih ⊢
    simp -dsimp [e, wipeE, ih]
theorem bls_trues : ∀ (acts : List D), bls (acts.map fun _ => D.bl true) = some (acts.map fun _ => true)
  | [] => rfl
  | a :: r => by
    show (bls (r.map fun _ => D.bl true)).map (true :: ·) = _
    rw [bls_trues r]; rfl
theorem all_trues (acts : List D) : allD (.lst (acts.map fun _ => D.bl true)) = some (.bl true) := by
  show (bls _).map (fun bs => D.bl (bs.all id)) = _
  rw [bls_trues]
  simp -dsimp
theorem is_part {ps : List (Str × D)} (hn : (ps.map (·.1)).Nodup) (hk : ∀ p ∈ ps, p.2 ∈ kinds) {ns : List Str} {n : Str} {acts : List D} (hl : LetterOk n) (hx : n ∉ ns) (h : ∀ a ∈ acts, Act ps ns a) (hz : acts.length ≤ 60) :
    ∃ ρ, d_is_program_part [.v (bx ps), .v (.lst (ns.map .str)), .v (.tup [.str n, .tup acts])] = .ok (.v (.bl true)) ρ := by
  obtain ⟨r1, e1⟩ := hl
  refine ⟨[some (.v (bx ps)), some (.v (.lst (ns.map .str))), some (.v (.tup [.str n, .tup acts]))], ?_⟩
  have t2 : d_is_tuple_of [.v (.tup [.str n, .tup acts]), .v (.int 2)] = .ok (.v (.bl true)) [some (.v (.tup [.str n, .tup acts])), some (.v (.int 2))] := by kernel_rfl
  have inn := in_lst (n := n) (ns := ns)
  rw [decide_eq_false hx] at inn
  have i1 : isiT ["tuple"] [] [cBoxes, cProgram] (.tup acts) = some true := rfl
  have lp := part_loop hn hk (ns := ns) (.tup [.str n, .tup acts]) acts acts h
  have z1 : ¬ (60 : Int) < acts.length := by omega
  have z2 : acts.length ≤ 1000000 := by omega
  have z3 : ¬ 60 < acts.length := by omega
  unfold d_is_program_part denOf m_is_program_part
  simp -dsimp only [bx] at lp ⊢
  simp -dsimp [t2, ixD, L2.atI, L2.ixN, e1, inn, i1, lenD, gtD, z1, z2, z3, wipeE, joinE, lp, all_trues]
end K84

set_option maxRecDepth 100000
set_option maxHeartbeats 4000000
namespace DL
open PySem
theorem list_ks {xs : List (Str × D)} {vs : List D} (hz : xs.length ≤ 1000) : listD (.dic (ksOf xs) vs) = some (.lst ((xs.map (·.1)).map D.str)) := by
  have e : (ksOf xs).map kD = (xs.map (·.1)).map D.str := by
    unfold ksOf
    rw [List.map_map, List.map_map]; rfl
  have z : (ksOf xs).length ≤ sizeLine := by rw [ks_len, sz_eq]; omega
  simp -dsimp [listD, e, z, ks_len]
  try omega
theorem lk_acts {α : Type} {a b : α} : List.lookup ("own_acts" : Str) [(("own_boxes" : Str), a), ("own_acts", b)] = some b := by kernel_rfl
theorem ne_ba : ¬ (("own_boxes" : Str) = "own_acts") := by decide +kernel
theorem enumD_app : ∀ {xs ys : List D} {n : Nat}, enumD n (xs ++ ys) = enumD n xs ++ enumD (n + xs.length) ys
  | [], ys, n => rfl
  | x :: xs, ys, n => by
    show _ :: enumD (n + 1) (xs ++ ys) = _
    rw [enumD_app, List.length_cons, Nat.add_right_comm n 1, Nat.add_assoc n]; rfl
end DL
namespace K84
open PySem DL
/-- parts that a program takes, the names ns ahead -/
def RunA (ps : List (Str × D)) : List Str → List (Str × D) → Prop
  | _, [] => True
  | ns, p :: r => p.1 ∉ ns ∧ LetterOk p.1 ∧ (∃ acts, p.2 = .tup acts ∧ acts.length ≤ 60 ∧ ∀ a ∈ acts, Act ps ns a) ∧ RunA ps (ns ++ [p.1]) r
theorem RunA.app {ps : List (Str × D)} : ∀ {ns : List Str} {r1 r2 : List (Str × D)}, RunA ps ns (r1 ++ r2) ↔ RunA ps ns r1 ∧ RunA ps (ns ++ r1.map (·.1)) r2
  | ns, [], r2 => by simp -dsimp [RunA]
  | ns, p :: r1, r2 => by
    have ih := RunA.app (ps := ps) (ns := ns ++ [p.1]) (r1 := r1) (r2 := r2)
    simp -dsimp only [List.cons_append, RunA, ih, List.map_cons, List.append_assoc, List.singleton_append, List.nil_append, List.cons_append, and_assoc]
theorem Act.mono {ps ps' : List (Str × D)} {ns ns' : List Str} {a : D} (hp : ∀ p ∈ ps, p ∈ ps') (hn : ∀ n ∈ ns, n ∈ ns') (h : Act ps ns a) : Act ps' ns' a := by
  cases h with
  | do_ h hs => exact .do_ (hp _ h) hs
  | call h => exact .call (hn _ h)
  | rep h0 h1 h => exact .rep h0 h1 (hn _ h)
theorem RunA.mono {ps ps' : List (Str × D)} (hp : ∀ p ∈ ps, p ∈ ps') : ∀ {ns ns' : List Str} {r : List (Str × D)}, (∀ n ∈ ns, n ∈ ns') → (∀ n ∈ r.map (·.1), n ∉ ns') → (r.map (·.1)).Nodup → RunA ps ns r → RunA ps' ns' r
  | _, _, [], _, _, _, _ => trivial
  | ns, ns', p :: r, hn, hx, hd, ⟨h1, h2, ⟨acts, h3, h4, h5⟩, h6⟩ => by
    rw [List.map_cons, List.nodup_cons] at hd
    refine ⟨hx _ List.mem_cons_self, h2, ⟨acts, h3, h4, fun a ha => (h5 a ha).mono hp hn⟩, RunA.mono hp (fun n h => ?_) (fun n h z => ?_) hd.2 h6⟩
    · rcases List.mem_append.mp h with h | h
      · exact List.mem_append_left _ (hn n h)
      · exact List.mem_append_right _ h
    · rcases List.mem_append.mp z with z | z
      · exact hx n (List.mem_cons_of_mem _ h) z
      · rw [List.mem_singleton] at z
        exact hd.1 (z ▸ h)
def pgF (ps pl : List (Str × D)) : DL.C := .ins cProgram ["own_boxes", "own_acts"] [.v (bx ps), .dic (ksOf pl) (vsOf pl)]
def pg (ps pl : List (Str × D)) : D := .ins cProgram ["own_boxes", "own_acts"] [bx ps, .dic (ksOf pl) (vsOf pl)]
theorem names_F {ps pl : List (Str × D)} (hz : pl.length ≤ 1000) : d_Program_names [pgF ps pl] = .ok (.v (.lst ((pl.map (·.1)).map .str))) [some (pgF ps pl)] := by
  have e := list_ks (vs := vsOf pl) hz
  unfold d_Program_names denOf m_Program_names
  simp -dsimp only [pgF]
  simp -dsimp [attrC, frF, lk_acts, e]
theorem names_D {ps pl : List (Str × D)} (hz : pl.length ≤ 1000) : d_Program_names [.v (pg ps pl)] = .ok (.v (.lst ((pl.map (·.1)).map .str))) [some (.v (pg ps pl))] := by
  have e := list_ks (vs := vsOf pl) hz
  unfold d_Program_names denOf m_Program_names
  simp -dsimp only [pg]
  simp -dsimp [attrC, frF, lk_acts, e]
theorem prog_loop {ps : List (Str × D)} (hn : (ps.map (·.1)).Nodup) (hk : ∀ p ∈ ps, p.2 ∈ kinds) (X : D) (S : List D) : ∀ (rest acc : List (Str × D)) (n : Nat) (c3 c4 : Option DL.C), RunA ps (acc.map (·.1)) rest → acc.length + rest.length ≤ 6 →
    ∃ c3' c4', forM (gT 2 (gNs (gN 3 3) (gNs (gN 3 4) gNs0))) (mSeq (mIfS (mNot (mB (mFrz (mCall 3 d_is_program_part (aCons (aSlot 1) (aCons (aVal (mFrz (mMeth cProgram "names" 1 d_Program_names (aSlot 0) aNil))) (aCons (aSlot 4) aNil))))))) (mRaise cNoProgram "told" (mV (qVar 3))) mSkip) (mPutF [cBoxes, cProgram] 0 "own_acts" (mV (qIx (qVar 4) (qC (.int (1))))) (qIx (qVar 4) (qC (.int (0)))))) (enumD n (rest.map prD ++ S)) [some (pgF ps acc), some (.v (bx ps)), some (.v X), c3, c4] =
      forM (gT 2 (gNs (gN 3 3) (gNs (gN 3 4) gNs0))) (mSeq (mIfS (mNot (mB (mFrz (mCall 3 d_is_program_part (aCons (aSlot 1) (aCons (aVal (mFrz (mMeth cProgram "names" 1 d_Program_names (aSlot 0) aNil))) (aCons (aSlot 4) aNil))))))) (mRaise cNoProgram "told" (mV (qVar 3))) mSkip) (mPutF [cBoxes, cProgram] 0 "own_acts" (mV (qIx (qVar 4) (qC (.int (1))))) (qIx (qVar 4) (qC (.int (0)))))) (enumD (n + rest.length) S) [some (pgF ps (acc ++ rest)), some (.v (bx ps)), some (.v X), c3', c4']
  | [], acc, n, c3, c4, _, _ => ⟨c3, c4, by rw [List.append_nil]; rfl⟩
  | p :: rest, acc, n, c3, c4, ⟨h1, h2, ⟨acts, h3, h4, h5⟩, h6⟩, hz => by
    obtain ⟨m, d⟩ := p
    simp -dsimp only at h3
    subst h3
    obtain ⟨r1, e1⟩ := is_part hn hk h2 h1 h5 h4
    obtain ⟨c3', c4', ih⟩ := prog_loop hn hk X S rest (acc ++ [(m, .tup acts)]) (n + 1) (some (.v (.int (n : Nat)))) (some (.v (prD (m, .tup acts)))) (by simpa using h6) (by simp -dsimp at hz ⊢; omega)
    refine ⟨c3', c4', ?_⟩
    have en : n + ((m, D.tup acts) :: rest).length = n + 1 + rest.length := by rw [List.length_cons]; omega
    rw [en]
    have al : acc.length < 16777216 := by simp -dsimp at hz; omega
    have nm := names_F (ps := ps) (pl := acc) (by simp -dsimp at hz; omega)
    have rc : ∀ a b c d, recvOk cProgram "names" (.sl 0) [some (pgF ps acc), a, b, c, d] = true := fun a b c d => by kernel_rfl
    rw [List.append_assoc, List.singleton_append] at ih
    refine Eq.trans ?_ ih
    show forM _ _ (.tup [.int (n : Nat), prD (m, .tup acts)] :: enumD (n + 1) (rest.map prD ++ S)) _ = _
    rw [for_cons]
    have pn := put_new (d := .tup acts) h1
    simp -dsimp only [pgF] at rc nm
    generalize acc.map (·.1) = ns at nm e1
    simp -dsimp only [prD, pgF] at pn e1 ⊢
    simp -dsimp [lk_acts, ne_ba, rc, nm, e1, ixD, L2.atI, L2.ixN, frF, keyD, pn, ks_len, al, setF]
theorem check_bx (ps : List (Str × D)) : d_check_boxes [.v (bx ps)] = .ok (.v .non) [some (.v (bx ps))] := by kernel_rfl
theorem program_init {ps : List (Str × D)} (hn : (ps.map (·.1)).Nodup) (hk : ∀ p ∈ ps, p.2 ∈ kinds) {X : D} {pl : List (Str × D)} (hX : X = .tup (pl.map prD) ∨ X = .lst (pl.map prD)) (h0 : 1 ≤ pl.length) (h1 : pl.length ≤ 6) (hr : RunA ps [] pl) :
    ∃ ρ, d_Program_init [.ins cProgram [] [], .v (bx ps), .v X] = .ok (.v .non) (some (pgF ps pl) :: ρ) := by
  obtain ⟨c3, c4, e⟩ := prog_loop hn hk X [] pl [] 0 none none hr (by simpa using h1)
  have l1 : d_is_line [.v X] = .ok (.v (.bl true)) [some (.v X)] := by rcases hX with rfl | rfl <;> kernel_rfl
  have q0 : (1 : Int) ≤ pl.length := by omega
  have q1 : (pl.length : Int) ≤ 6 := by omega
  have cb := check_bx ps
  simp -dsimp only [pgF, ksOf, vsOf, List.map_nil, List.nil_append, List.append_nil, enumD, for_nil] at e
  refine ⟨[some (.v (bx ps)), some (.v X)], ?_⟩
  unfold d_Program_init denOf m_Program_init
  rcases hX with rfl | rfl
  · simp -dsimp [cb, l1, lenD, leD, h0, h1, q0, q1, toF, putO, ne_ba, e]
    simp -dsimp [pgF, ksOf, vsOf]
  · simp -dsimp [cb, l1, lenD, leD, h0, h1, q0, q1, toF, putO, ne_ba, e]
    simp -dsimp [pgF, ksOf, vsOf]
theorem program_wrong {ps : List (Str × D)} (hn : (ps.map (·.1)).Nodup) (hk : ∀ p ∈ ps, p.2 ∈ kinds) {X w : D} {pl : List (Str × D)} {S : List D} (hX : X = .lst (pl.map prD ++ w :: S)) (h1 : pl.length + S.length ≤ 5) (hr : RunA ps [] pl)
    (hw : ∃ ρ, d_is_program_part [.v (bx ps), .v (.lst ((pl.map (·.1)).map .str)), .v w] = .ok (.v (.bl false)) ρ) :
    ∃ ρ, d_Program_init [.ins cProgram [] [], .v (bx ps), .v X] = .exc cNoProgram [("told", .int pl.length)] ρ := by
  obtain ⟨c3, c4, e⟩ := prog_loop hn hk X (w :: S) pl [] 0 none none hr (by simp -dsimp; omega)
  obtain ⟨r1, e1⟩ := hw
  have l1 : d_is_line [.v X] = .ok (.v (.bl true)) [some (.v X)] := by rcases hX with rfl | rfl <;> kernel_rfl
  have q0 : (1 : Int) ≤ (pl.map prD ++ w :: S).length := by simp -dsimp; omega
  have q1 : ((pl.map prD ++ w :: S).length : Int) ≤ 6 := by simp -dsimp; omega
  have cb := check_bx ps
  have nm := names_F (ps := ps) (pl := pl) (by omega)
  have rc : ∀ a b c d, recvOk cProgram "names" (.sl 0) [some (pgF ps pl), a, b, c, d] = true := fun a b c d => by kernel_rfl
  have en : enumD (0 + pl.length) (w :: S) = .tup [.int ((pl.length : Nat) : Int), w] :: enumD (pl.length + 1) S := by rw [Nat.zero_add]; rfl
  rw [en, for_cons] at e
  have key : ∃ ρ, forM (gT 2 (gNs (gN 3 3) (gNs (gN 3 4) gNs0))) (mSeq (mIfS (mNot (mB (mFrz (mCall 3 d_is_program_part (aCons (aSlot 1) (aCons (aVal (mFrz (mMeth cProgram "names" 1 d_Program_names (aSlot 0) aNil))) (aCons (aSlot 4) aNil))))))) (mRaise cNoProgram "told" (mV (qVar 3))) mSkip) (mPutF [cBoxes, cProgram] 0 "own_acts" (mV (qIx (qVar 4) (qC (.int (1))))) (qIx (qVar 4) (qC (.int (0)))))) (enumD 0 (pl.map prD ++ w :: S)) [some (pgF ps []), some (.v (bx ps)), some (.v X), none, none] = .exc cNoProgram [("told", .int pl.length)] ρ := by
    refine ⟨[some (pgF ps pl), some (.v (bx ps)), some (.v X), some (.v (.int pl.length)), some (.v w)], e.trans ?_⟩
    rw [List.nil_append]
    generalize pl.map (·.1) = ns at nm e1
    simp -dsimp only [pgF] at rc nm ⊢
    simp -dsimp [rc, nm, e1]
  obtain ⟨r2, e2⟩ := key
  simp -dsimp only [pgF, ksOf, vsOf, List.map_nil] at e2
  refine ⟨r2.take 3, ?_⟩
  unfold d_Program_init denOf m_Program_init
  subst hX
  have q0 : (1 : Int) ≤ pl.length + (S.length + 1) := by omega
  have q1 : (pl.length : Int) + (S.length + 1) ≤ 6 := by omega
  simp -dsimp [cb, l1, lenD, leD, q0, q1, toF, putO, ne_ba, e2]
end K84

set_option maxRecDepth 100000
set_option maxHeartbeats 4000000
namespace DL
open PySem
section
variable {ρ : Env} {cl : List Addr} {i : Nat} {f : Str} {g : MG} {t : MT} {el : ME} {vs : List Nat}
@[simp] theorem e_compK : mCompK cl i f g t el vs ρ = if shSlot i ρ = true then mComp (iFld cl i f) none g t el vs ρ else .bad := rfl
@[simp] theorem e_iFld : iFld cl i f ρ = match (qVar i ρ).bind (attrC cl f) with
  | some (.v (.dic ks _)) => .ok (ks.map kD) ρ
  | _ => .bad := rfl
@[simp] theorem e_shSlot : shSlot i ρ = match qVar i ρ with
  | some (.v _) => true
  | _ => false := rfl
end
theorem ks_kD {xs : List (Str × D)} : (ksOf xs).map kD = (xs.map (·.1)).map D.str := by
  unfold ksOf
  rw [List.map_map, List.map_map]; rfl
end DL
namespace K84
open PySem DL
theorem listed_loop {ps : List (Str × D)} (hn : (ps.map (·.1)).Nodup) (l0 : List D) : ∀ (r : List (Str × D)), (∀ p ∈ r, p ∈ ps) →
    compM (gW 1) tYesM (mTup (mCons (mV (qVar 1)) (mCons (mV (qIx (qAttr [cBoxes, cProgram] "own_kinds" (qVar 0)) (qVar 1))) mNil))) [1] none l0 ((r.map (·.1)).map .str) [some (.v (bx ps)), none] = .ok (r.map prD) [some (.v (bx ps)), none]
  | [], _ => rfl
  | p :: r, h => by
    have ih := listed_loop hn l0 r fun z hz => h z (List.mem_cons_of_mem _ hz)
    have vk := valK_mem hn (h p List.mem_cons_self)
    simp -dsimp only [bx, List.map_map] at ih ⊢
    simp -dsimp [attrC, ixD, keyD, vk, wipeE, ih, prD]
theorem listed {ps : List (Str × D)} (hn : (ps.map (·.1)).Nodup) (hz : ps.length ≤ 6) : d_Boxes_listed [.v (bx ps)] = .ok (.lst (ps.map prD)) [some (.v (bx ps))] := by
  have e := listed_loop hn ((ps.map (·.1)).map .str) ps fun _ h => h
  have kk := ks_kD (xs := ps)
  have z : ps.length ≤ 1000000 := by omega
  unfold d_Boxes_listed denOf m_Boxes_listed
  simp -dsimp only [bx] at e ⊢
  generalize (ps.map (·.1)).map D.str = L at e kk
  have zL : L.length ≤ 1000000 := by rw [← kk, List.length_map, ks_len]; exact z
  simp -dsimp [attrC, kk, zL, wipeE, joinE, e]
theorem parts_loopK {ps pl : List (Str × D)} (hn : (pl.map (·.1)).Nodup) (l0 : List D) : ∀ (r : List (Str × D)), (∀ p ∈ r, p ∈ pl) →
    compM (gW 1) tYesM (mTup (mCons (mV (qVar 1)) (mCons (mV (qIx (qAttr [cBoxes, cProgram] "own_acts" (qVar 0)) (qVar 1))) mNil))) [1] none l0 ((r.map (·.1)).map .str) [some (.v (pg ps pl)), none] = .ok (r.map prD) [some (.v (pg ps pl)), none]
  | [], _ => rfl
  | p :: r, h => by
    have ih := parts_loopK (ps := ps) hn l0 r fun z hz => h z (List.mem_cons_of_mem _ hz)
    have vk := valK_mem hn (h p List.mem_cons_self)
    simp -dsimp only [pg, List.map_map] at ih ⊢
    simp -dsimp [attrC, lk_acts, ixD, keyD, vk, wipeE, ih, prD]
theorem parts_D {ps pl : List (Str × D)} (hn : (pl.map (·.1)).Nodup) (hz : pl.length ≤ 6) : d_Program_parts [.v (pg ps pl)] = .ok (.v (.tup (pl.map prD))) [some (.v (pg ps pl))] := by
  have e := parts_loopK (ps := ps) hn ((pl.map (·.1)).map .str) pl fun _ h => h
  have kk := ks_kD (xs := pl)
  have z : pl.length ≤ 1000000 := by omega
  have tt : ∀ l : List D, tupleD (.lst l) = some (.tup l) := fun _ => rfl
  unfold d_Program_parts denOf m_Program_parts
  simp -dsimp only [pg] at e ⊢
  generalize (pl.map (·.1)).map D.str = L at e kk
  have zL : L.length ≤ 1000000 := by rw [← kk, List.length_map, ks_len]; exact z
  simp -dsimp [attrC, lk_acts, kk, zL, wipeE, joinE, e, tt]
theorem boxes_D (ps pl : List (Str × D)) : d_Program_boxes [.v (pg ps pl)] = .ok (.v (bx ps)) [some (.v (pg ps pl))] := by kernel_rfl
theorem one_of (n : Str) (ns : List Str) : ∃ ρ, d_is_one_of [.v (.str n), .v (.lst (ns.map .str))] = .ok (.v (.bl (decide (n ∈ ns)))) ρ := by
  refine ⟨[some (.v (.str n)), some (.v (.lst (ns.map .str)))], ?_⟩
  have i3 : isiT ["str"] [] [cBoxes, cProgram] (.str n) = some true := rfl
  have inn := in_lst (n := n) (ns := ns)
  unfold d_is_one_of denOf m_is_one_of
  simp -dsimp [i3, inn]
theorem acts_D {ps pl : List (Str × D)} (hn : (pl.map (·.1)).Nodup) (hz : pl.length ≤ 6) {n : Str} {d : D} (h : (n, d) ∈ pl) : ∃ ρ, d_Program_acts_of [.v (pg ps pl), .v (.str n)] = .ok (.v d) ρ := by
  have nm := names_D (ps := ps) (pl := pl) (by omega)
  obtain ⟨ρ1, e1⟩ := one_of n (pl.map (·.1))
  have mem : n ∈ pl.map (·.1) := List.mem_map.mpr ⟨_, h, rfl⟩
  rw [decide_eq_true mem] at e1
  have vk := valK_mem hn h
  have rc : recvOk cProgram "names" (.d (pg ps pl)) [some (.v (pg ps pl)), some (.v (.str n))] = true := by kernel_rfl
  generalize pl.map (·.1) = ns at nm e1
  refine ⟨[some (.v (pg ps pl)), some (.v (.str n))], ?_⟩
  unfold d_Program_acts_of denOf m_Program_acts_of
  simp -dsimp only [pg] at nm rc ⊢
  simp -dsimp [rc, nm, e1, attrC, lk_acts, ixD, keyD, vk]
/-! == -/
theorem kinds_dt : (kinds.all fun k => dtB 1 k && (steps k).all (dtB 1)) = true := by decide +kernel
theorem kind_dt {k : D} (h : k ∈ kinds) : dtB 1 k = true := (Bool.and_eq_true_iff.mp (List.all_eq_true.mp kinds_dt k h)).1
theorem step_dt {k s : D} (h : k ∈ kinds) (hs : s ∈ steps k) : dtB 1 s = true := List.all_eq_true.mp (Bool.and_eq_true_iff.mp (List.all_eq_true.mp kinds_dt k h)).2 s hs
theorem dt_up : ∀ (n : Nat) (d : D), dtB n d = true → dtB (n + 1) d = true
  | _, .non, _ => rfl
  | _, .int _, _ => rfl
  | 0, .str x, h => h
  | n + 1, .str x, h => h
  | n + 1, .tup l, h => by
    rw [dtB_tup, List.all_eq_true] at h ⊢
    exact fun x hx => dt_up n x (h x hx)
  | n + 1, .lst l, h => by
    rw [dtB_lst, List.all_eq_true] at h ⊢
    exact fun x hx => dt_up n x (h x hx)
  | 0, .tup l, h => by cases h
  | 0, .lst l, h => by cases h
  | n, .bl _, h => by cases n <;> cases h
  | n, .dic _ _, h => by cases n <;> cases h
  | n, .ins _ _ _, h => by cases n <;> cases h
structure BxOk (ps : List (Str × D)) : Prop where
  nd : (ps.map (·.1)).Nodup
  sz : ps.length ≤ 6
  s1 : 1 ≤ ps.length
  st : ∀ p ∈ ps, PyData.strOk p.1 = true ∧ LetterOk p.1
  kd : ∀ p ∈ ps, p.2 ∈ kinds
end K84

set_option maxRecDepth 100000
set_option maxHeartbeats 4000000
namespace K84
open PySem DL
abbrev NE := orD (orD neD (neT cBoxes [cBoxes, cProgram] d_Boxes_eq)) (neT cProgram [cBoxes, cProgram] d_Program_eq)
abbrev EQ := orD (orD eqD (eqT cBoxes [cBoxes, cProgram] d_Boxes_eq)) (eqT cProgram [cBoxes, cProgram] d_Program_eq)
theorem or_some {g g' : D → D → Option D} {a b d : D} (h : g a b = some d) : orD g g' a b = some d := by unfold orD; rw [h]
theorem or_none {g g' : D → D → Option D} {a b : D} (h : g a b = none) : orD g g' a b = g' a b := by unfold orD; rw [h]
theorem NE_of {a b d : D} (h : neD a b = some d) : NE a b = some d := or_some (or_some h)
theorem EQ_of {a b d : D} (h : eqD a b = some d) : EQ a b = some d := or_some (or_some h)
theorem kind_dt2 {k : D} (h : k ∈ kinds) : dtB 1 k = true := kind_dt h
/-- pairs of texts and plain values -/
theorem prs_dt {n : Nat} {xs : List (Str × D)} (hs : ∀ p ∈ xs, PyData.strOk p.1 = true) (hd : ∀ p ∈ xs, dtB (n + 1) p.2 = true) : dtB (n + 3) (.tup (xs.map prD)) = true ∧ dtB (n + 3) (.lst (xs.map prD)) = true := by
  have : (xs.map prD).all (dtB (n + 2)) = true := by
    rw [List.all_eq_true]
    intro d h
    obtain ⟨p, hp, rfl⟩ := List.mem_map.mp h
    show (dtB (n + 1) (.str p.1) && (dtB (n + 1) p.2 && true)) = true
    have e : dtB (n + 1) (.str p.1) = PyData.strOk p.1 := rfl
    rw [e, hs p hp, hd p hp]; rfl
  exact ⟨this, this⟩
theorem BxOk.dt {ps : List (Str × D)} (h : BxOk ps) : dtB 3 (.tup (ps.map prD)) = true ∧ dtB 3 (.lst (ps.map prD)) = true := prs_dt (n := 0) (fun p hp => (h.st p hp).1) fun p hp => kind_dt (h.kd p hp)
theorem prD_inj : ∀ {xs ys : List (Str × D)}, xs.map prD = ys.map prD → xs = ys
  | [], [], _ => rfl
  | [], _ :: _, h => by simp -dsimp at h
  | _ :: _, [], h => by simp -dsimp at h
  | (a, b) :: xs, (c, d) :: ys, h => by
    simp -dsimp only [List.map_cons, List.cons.injEq, prD, D.tup.injEq, D.str.injEq] at h
    obtain ⟨⟨h1, h2, _⟩, h3⟩ := h
    rw [h1, h2, prD_inj h3]
theorem lst_same {n : Nat} (hn : n ≤ 64) {xs : List D} (h : dtB n (.lst xs) = true) : eqD (.lst xs) (.lst xs) = some (.bl true) := eqD_same n hn h
theorem bx_isi (ps : List (Str × D)) : isiT [] [cBoxes] [cBoxes, cProgram] (bx ps) = some true := by kernel_rfl
theorem pg_isi (ps pl : List (Str × D)) : isiT [] [cProgram] [cBoxes, cProgram] (pg ps pl) = some true := by kernel_rfl
theorem boxes_eq {ps ps' : List (Str × D)} (h : BxOk ps) (h' : BxOk ps') : ∃ b : Bool, (b = true ↔ ps = ps') ∧ ∃ ρ, d_Boxes_eq [.v (bx ps), .v (bx ps')] = .ok (.v (.bl b)) ρ := by
  have l1 := listed h.nd h.sz
  have l2 := listed h'.nd h'.sz
  have rc1 : recvOk cBoxes "listed" (.d (bx ps)) [some (.v (bx ps)), some (.v (bx ps'))] = true := by kernel_rfl
  have rc2 : recvOk cBoxes "listed" (.d (bx ps')) [some (.v (bx ps)), some (.v (bx ps'))] = true := by kernel_rfl
  have is := bx_isi ps'
  have key : ∃ b : Bool, (b = true ↔ ps = ps') ∧ eqD (.lst (ps.map prD)) (.lst (ps'.map prD)) = some (.bl b) := by
    by_cases e : ps = ps'
    · subst e
      exact ⟨true, by simp, eqD_same 3 (by omega) h.dt.2⟩
    · exact ⟨false, by simp -dsimp [e], eqD_not 3 (by omega) h.dt.2 h'.dt.2 fun z => e (prD_inj (D.lst.inj z))⟩
  obtain ⟨b, hb, eb⟩ := key
  refine ⟨b, hb, [some (.v (bx ps)), some (.v (bx ps'))], ?_⟩
  unfold d_Boxes_eq denOf m_Boxes_eq
  simp -dsimp [is, rc1, rc2, l1, l2, eb]
theorem ins_eqD {c : Addr} {ns : List Str} {l : List D} {b : D} : eqD (.ins c ns l) b = none := rfl
theorem ins_neD {c : Addr} {ns : List Str} {l : List D} {b : D} : neD (.ins c ns l) b = none := rfl
theorem bx_ne {ps ps' : List (Str × D)} (h : BxOk ps) (h' : BxOk ps') : ∃ b : Bool, (b = true ↔ ¬ ps = ps') ∧ orD neD (neT cBoxes [cBoxes, cProgram] d_Boxes_eq) (bx ps) (bx ps') = some (.bl b) := by
  obtain ⟨b, hb, ρ, e⟩ := boxes_eq h h'
  refine ⟨!b, by rw [← hb]; cases b <;> simp, ?_⟩
  rw [or_none (show neD (bx ps) (bx ps') = none from rfl)]
  have nf : nfT [cBoxes, cProgram] (bx ps') = true := by kernel_rfl
  simp -dsimp only [bx] at e nf ⊢
  simp -dsimp [neT, eqT, nf, e]
theorem bx_NE {ps : List (Str × D)} (h : BxOk ps) : NE (bx ps) (bx ps) = some (.bl false) := by
  obtain ⟨b, hb, e⟩ := bx_ne h h
  have : b = false := by cases b <;> simp -dsimp at hb ⊢
  subst this
  exact or_some e
structure PgOk (ps pl : List (Str × D)) : Prop where
  bx : BxOk ps
  nd : (pl.map (·.1)).Nodup
  sz : pl.length ≤ 6
  dt : dtB 5 (.tup (pl.map prD)) = true
theorem program_eq {ps ps' pl pl' : List (Str × D)} (h : PgOk ps pl) (h' : PgOk ps' pl') : ∃ b : Bool, (b = true ↔ ps = ps' ∧ pl = pl') ∧ ∃ ρ, d_Program_eq [.v (pg ps pl), .v (pg ps' pl')] = .ok (.v (.bl b)) ρ := by
  have is := pg_isi ps' pl'
  obtain ⟨b1, hb1, e1⟩ := bx_ne h.bx h'.bx
  have at1 : attrC [cBoxes, cProgram] "own_boxes" (.v (pg ps pl)) = some (.v (bx ps)) := by kernel_rfl
  have at2 : attrC [cBoxes, cProgram] "own_boxes" (.v (pg ps' pl')) = some (.v (bx ps')) := by kernel_rfl
  cases b1 with
  | true =>
    have ne := hb1.mp rfl
    refine ⟨false, by simp -dsimp [ne], [some (.v (pg ps pl)), some (.v (pg ps' pl'))], ?_⟩
    unfold d_Program_eq denOf m_Program_eq
    simp -dsimp [is, at1, at2, e1]
  | false =>
    have ee : ps = ps' := by
      by_cases z : ps = ps'
      · exact z
      · have := hb1.mpr z; cases this
    have l1 := parts_D (ps := ps) h.nd h.sz
    have l2 := parts_D (ps := ps') h'.nd h'.sz
    have rc1 : recvOk cProgram "parts" (.d (pg ps pl)) [some (.v (pg ps pl)), some (.v (pg ps' pl'))] = true := by kernel_rfl
    have rc2 : recvOk cProgram "parts" (.d (pg ps' pl')) [some (.v (pg ps pl)), some (.v (pg ps' pl'))] = true := by kernel_rfl
    have key : ∃ b : Bool, (b = true ↔ pl = pl') ∧ orD eqD (eqT cBoxes [cBoxes, cProgram] d_Boxes_eq) (.tup (pl.map prD)) (.tup (pl'.map prD)) = some (.bl b) := by
      by_cases e : pl = pl'
      · subst e
        exact ⟨true, by simp, or_some (eqD_same 5 (by omega) h.dt)⟩
      · exact ⟨false, by simp -dsimp [e], or_some (eqD_not 5 (by omega) h.dt h'.dt fun z => e (prD_inj (D.tup.inj z)))⟩
    obtain ⟨b, hb, eb⟩ := key
    refine ⟨b, by rw [hb]; simp -dsimp [ee], [some (.v (pg ps pl)), some (.v (pg ps' pl'))], ?_⟩
    unfold d_Program_eq denOf m_Program_eq
    simp -dsimp [is, at1, at2, e1, rc1, rc2, l1, l2, eb]
theorem cne : ¬ cProgram = cBoxes := by decide +kernel
theorem pg_EQ {ps ps' pl pl' : List (Str × D)} (h : PgOk ps pl) (h' : PgOk ps' pl') : ∃ b : Bool, (b = true ↔ ps = ps' ∧ pl = pl') ∧ EQ (pg ps pl) (pg ps' pl') = some (.bl b) := by
  obtain ⟨b, hb, ρ, e⟩ := program_eq h h'
  refine ⟨b, hb, ?_⟩
  have e0 : eqT cBoxes [cBoxes, cProgram] d_Boxes_eq (pg ps pl) (pg ps' pl') = none := by
    simp -dsimp [eqT, pg, cne]
  have nf : nfT [cBoxes, cProgram] (pg ps' pl') = true := by kernel_rfl
  rw [EQ, or_none (by rw [or_none (show eqD (pg ps pl) _ = none from rfl)]; exact e0)]
  simp -dsimp only [pg] at e nf ⊢
  simp -dsimp [eqT, nf, e]
theorem pg_EQ_tup (ps pl : List (Str × D)) (l : List D) : EQ (pg ps pl) (.tup l) = some (.bl false) := by
  have e0 : eqT cBoxes [cBoxes, cProgram] d_Boxes_eq (pg ps pl) (.tup l) = none := by
    simp -dsimp [eqT, pg, cne]
  have is : isiT [] [cProgram] [cBoxes, cProgram] (.tup l) = some false := rfl
  rw [EQ, or_none (by rw [or_none (show eqD (pg ps pl) _ = none from rfl)]; exact e0)]
  have de : d_Program_eq [.v (pg ps pl), .v (.tup l)] = .ok (.v (.bl false)) [some (.v (pg ps pl)), some (.v (.tup l))] := by
    unfold d_Program_eq denOf m_Program_eq
    simp -dsimp [is]
  simp -dsimp only [pg] at de ⊢
  simp -dsimp [eqT, nfT, de]
end K84

set_option maxRecDepth 100000
set_option maxHeartbeats 4000000
namespace K84
open PySem DL
theorem letter_all {n : Str} (h : n ∈ (["s", "q", "copy", "more", "x", "p", "r", "main", "w"] : List Str)) : LetterOk n ∧ PyData.strOk n = true := by
  simp -dsimp only [List.mem_cons, List.mem_nil_iff, or_false] at h
  rcases h with rfl | rfl | rfl | rfl | rfl | rfl | rfl | rfl | rfl <;> exact ⟨isT_ok (by decide +kernel), by decide +kernel⟩
/-- from what is known of the parts -/
theorem Pl.run {ps pl : List (Str × D)} (hp : Pl ps pl) (hs : ∀ q ∈ pl, ∃ acts, q.2 = .tup acts ∧ acts.length ≤ 4) (hl : ∀ n ∈ pl.map (·.1), LetterOk n) : ∀ (r acc : List (Str × D)), acc ++ r = pl → RunA ps (acc.map (·.1)) r
  | [], _, _ => trivial
  | p :: r, acc, e => by
    have hm : p ∈ pl := by rw [← e]; simp -dsimp
    have ix : pl[acc.length]? = some (p.1, p.2) := by rw [← e, List.getElem?_append_right (Nat.le_refl _), Nat.sub_self]; rfl
    have tk : pl.take acc.length = acc := by rw [← e, List.take_left]
    obtain ⟨acts, h1, h2⟩ := hp.ok acc.length p.1 p.2 ix
    rw [tk] at h2
    obtain ⟨acts', h3, h4⟩ := hs p hm
    rw [h1] at h3
    cases h3
    have nd := hp.nd
    rw [← e, List.map_append, List.map_cons, List.nodup_append] at nd
    refine ⟨fun z => nd.2.2 _ z _ List.mem_cons_self rfl, hl _ (List.mem_map.mpr ⟨p, hm, rfl⟩), ⟨acts, h1, by omega, h2⟩, ?_⟩
    have := Pl.run hp hs hl r (acc ++ [p]) (by rw [List.append_assoc]; exact e)
    rwa [List.map_append] at this
/-- a row of steps -/
structure Row (ps rs : List (Str × D)) : Prop where
  nm : rs.length = ps.length
  st : ∀ r ∈ rs, ∃ k, (r.1, k) ∈ ps ∧ r.2 ∈ steps k
def doA (r : Str × D) : D := .tup [.str "do", .str r.1, r.2]
theorem mixed_loop {ps : List (Str × D)} (h : BxOk ps) (P : D) (l0 : List D) : ∀ (rs : List (Str × D)), (∀ r ∈ rs, ∃ k, (r.1, k) ∈ ps ∧ r.2 ∈ steps k) →
    compM (gW 2) tYesM (mFrz (mMeth cBoxes "has_step" 2 d_Boxes_has_step (aSlot 0) (aCons (aSlot 2) aNil))) [2] none l0 (rs.map prD) [some (.v (bx ps)), some (.v P), none] = .ok ((rs.map prD).map fun _ => .bl true) [some (.v (bx ps)), some (.v P), none]
  | [], _ => rfl
  | r :: rs, hr => by
    obtain ⟨k, hk, hs⟩ := hr r List.mem_cons_self
    obtain ⟨ρ, e⟩ := has_step h.nd hk r.2 (step_form (h.kd _ hk) hs)
    have ih := mixed_loop h P l0 rs fun z hz => hr z (List.mem_cons_of_mem _ hz)
    have rc : ∀ d, recvOk cBoxes "has_step" (.d (bx ps)) [some (.v (bx ps)), some (.v P), some (.v d)] = true := fun d => by kernel_rfl
    rw [List.map_cons, c_cons]
    simp -dsimp only [prD] at ih ⊢
    simp -dsimp [rc, e, wipeE]
    simp -dsimp at ih
    rw [ih]
theorem mixed {ps : List (Str × D)} (h : BxOk ps) {rs : List (Str × D)} (hr : Row ps rs) : ∃ ρ, d_is_mixed_row [.v (bx ps), .v (.tup (rs.map prD))] = .ok (.v (.bl true)) ρ := by
  have e := mixed_loop h (.tup (rs.map prD)) (rs.map prD) rs hr.st
  have z : rs.length ≤ 6 := by rw [hr.nm]; exact h.sz
  have is : isiT ["tuple"] [] [cBoxes, cProgram] (.tup (rs.map prD)) = some true := rfl
  have z1 : (rs.length : Int) ≤ 60 := by omega
  have z2 : rs.length ≤ 60 := by omega
  have z3 : rs.length ≤ 1000000 := by omega
  refine ⟨[some (.v (bx ps)), some (.v (.tup (rs.map prD)))], ?_⟩
  have at' := all_trues (rs.map prD)
  have lz : (rs.map prD).length = rs.length := List.length_map _
  generalize (rs.map prD).map (fun _ => D.bl true) = T at at' e
  generalize rs.map prD = L at e lz is
  unfold d_is_mixed_row denOf m_is_mixed_row
  simp -dsimp [is, lenD, leD, lz, z1, z2, z3, wipeE, joinE, e, at']
theorem row_loop (X : D) (Y : D) (l0 : List D) : ∀ (rs : List (Str × D)),
    compM (gW 2) tYesM (mTup (mCons (mV (qC (.str "do"))) (mStar (mV (qVar 2)) mNil))) [2] none l0 (rs.map prD) [some (.v X), some (.v Y), none] = .ok (rs.map doA) [some (.v X), some (.v Y), none]
  | [] => rfl
  | r :: rs => by
    have ih := row_loop X Y l0 rs
    rw [List.map_cons, c_cons]
    simp -dsimp [prD, wipeE, ih]
    rfl
def rowPl (rs : List (Str × D)) : List (Str × D) := [("main", .tup (rs.map doA))]
theorem Row.run {ps rs : List (Str × D)} (h : BxOk ps) (hr : Row ps rs) : RunA ps [] (rowPl rs) := by
  refine ⟨by simp, (letter_all (by simp -dsimp)).1, ⟨_, rfl, ?_, ?_⟩, trivial⟩
  · rw [List.length_map, hr.nm]; have := h.sz; omega
  · intro a ha
    obtain ⟨r, h1, rfl⟩ := List.mem_map.mp ha
    obtain ⟨k, h2, h3⟩ := hr.st r h1
    exact .do_ h2 h3
theorem from_row {ps rs : List (Str × D)} (h : BxOk ps) (hr : Row ps rs) : ∃ ρ, d_Program_from_row [.v (bx ps), .v (.tup (rs.map prD))] = .ok (pgF ps (rowPl rs)) ρ := by
  obtain ⟨ρ1, e1⟩ := mixed h hr
  have e2 := row_loop (bx ps) (.tup (rs.map prD)) (rs.map prD) rs
  obtain ⟨ρ3, e3⟩ := program_init h.nd h.kd (X := .tup ((rowPl rs).map prD)) (.inl rfl) (by simp -dsimp [rowPl]) (by simp -dsimp [rowPl]) (hr.run h)
  have is := bx_isi ps
  have z3 : (rs.map prD).length ≤ 1000000 := by rw [List.length_map, hr.nm]; have := h.sz; omega
  have z4 : rs.length ≤ 1000000 := by rw [hr.nm]; have := h.sz; omega
  refine ⟨[some (.v (bx ps)), some (.v (.tup (rs.map prD)))], ?_⟩
  simp -dsimp only [rowPl, List.map_cons, List.map_nil, prD] at e3 ⊢
  have tt : ∀ l : List D, tupleD (.lst l) = some (.tup l) := fun _ => rfl
  unfold d_Program_from_row denOf m_Program_from_row
  generalize rs.map doA = A at e2 e3 ⊢
  generalize rs.map prD = L at e1 e2 z3 ⊢
  simp -dsimp [is, e1, wipeE, joinE, e2, z3, tt, e3, makeSet]
end K84

set_option maxRecDepth 100000
set_option maxHeartbeats 4000000
namespace K84
open PySem DL
theorem draw_row {ps : List (Str × D)} (hk : ∀ p ∈ ps, p.2 ∈ kinds) (c0 c1 c3 c4 c5 c6 c7 c8 c9 c10 c12 c13 c15 : Option DL.C) (l0 : List D) : ∀ (r : List (Str × D)), (∀ p ∈ r, p ∈ ps) → ∀ (a b : Int), Ok a b →
    ∃ rs : List (Str × D), rs.length = r.length ∧ (∀ q ∈ rs, ∃ k, (q.1, k) ∈ ps ∧ q.2 ∈ steps k) ∧ ∃ a' b', Ok a' b' ∧
      compM (gT 2 (gNs (gW 11) (gNs (gW 14) gNs0))) tYesM (mTup (mCons (mV (qVar 11)) (mCons (mFrz (mCall 3 d__law_step (aCons (aSlot 2) (aCons (aSlot 14) (aCons (aVal (mLst (mCons (mV (qC (.str "a"))) mNil))) aNil))))) mNil))) [11, 14] none l0 (r.map prD) [c0, c1, some (src a b), c3, c4, c5, c6, c7, c8, c9, c10, none, c12, c13, none, c15] =
        .ok (rs.map prD) [c0, c1, some (src a' b'), c3, c4, c5, c6, c7, c8, c9, c10, none, c12, c13, none, c15]
  | [], _, a, b, h => ⟨[], rfl, by simp, a, b, h, rfl⟩
  | p :: r, hp, a, b, h => by
    obtain ⟨s, hs, a1, b1, h1, e1⟩ := step h letA (hk p (hp p List.mem_cons_self))
    obtain ⟨rs, q1, q2, a2, b2, h2, q3⟩ := draw_row hk c0 c1 c3 c4 c5 c6 c7 c8 c9 c10 c12 c13 c15 l0 r (fun z hz => hp z (List.mem_cons_of_mem _ hz)) a1 b1 h1
    refine ⟨(p.1, s) :: rs, by simp -dsimp [q1], ?_, a2, b2, h2, ?_⟩
    · intro q hq
      rcases List.mem_cons.mp hq with rfl | hq
      · exact ⟨p.2, hp p List.mem_cons_self, hs⟩
      · exact q2 q hq
    · simp -dsimp only [src] at e1 q3 ⊢
      rw [List.map_cons, c_cons]
      simp -dsimp [prD, e1, wipeE]
      rw [q3]
end K84

set_option maxRecDepth 100000
set_option maxHeartbeats 4000000
namespace K84
open PySem DL
def isF : R DL.C → Bool
  | .ok (.v (.bl b)) _ => !b
  | _ => false
theorem isF_ok {r : R DL.C} (h : isF r = true) : ∃ ρ, r = .ok (.v (.bl false)) ρ := by
  cases r with
  | ok c ρ =>
    cases c with
    | v d =>
      cases d with
      | bl b =>
        cases b with
        | false => exact ⟨ρ, rfl⟩
        | true => cases h
      | _ => cases h
    | _ => cases h
  | _ => cases h
/-- x is no part behind the names ns -/
def BadP (ps : List (Str × D)) (ns : List Str) (x : D) : Prop := ∃ ρ, d_is_program_part [.v (bx ps), .v (.lst (ns.map .str)), .v x] = .ok (.v (.bl false)) ρ
def BadA (ps : List (Str × D)) (ns : List Str) (x : D) : Prop := ∃ ρ, d_is_act [.v (bx ps), .v (.lst (ns.map .str)), .v x] = .ok (.v (.bl false)) ρ
section
variable {ps : List (Str × D)} {ns : List Str}
theorem bad_of {x : D} (h : d_is_program_part [.v (bx ps), .v (.lst (ns.map .str)), .v x] = .ok (.v (.bl false)) [some (.v (bx ps)), some (.v (.lst (ns.map .str))), some (.v x)]) : BadP ps ns x := ⟨_, h⟩
theorem w_letter : d_is_letter [.v (.str "w")] = .ok (.v (.bl true)) [some (.v (.str "w"))] := by kernel_rfl
theorem bad_act (hw : ("w" : Str) ∉ ns) {x : D} (h : BadA ps ns x) : BadP ps ns (.tup [.str "w", .tup [x]]) := by
  obtain ⟨ρ, e⟩ := h
  have t2 : d_is_tuple_of [.v (.tup [.str "w", .tup [x]]), .v (.int 2)] = .ok (.v (.bl true)) [some (.v (.tup [.str "w", .tup [x]])), some (.v (.int 2))] := by kernel_rfl
  have inn := in_lst (n := "w") (ns := ns)
  rw [decide_eq_false hw] at inn
  have i1 : isiT ["tuple"] [] [cBoxes, cProgram] (.tup [x]) = some true := rfl
  have af : allD (.lst [.bl false]) = some (.bl false) := by kernel_rfl
  have wl := w_letter
  refine ⟨[some (.v (bx ps)), some (.v (.lst (ns.map .str))), some (.v (.tup [.str "w", .tup [x]]))], ?_⟩
  unfold d_is_program_part denOf m_is_program_part
  generalize D.lst (ns.map D.str) = N at e inn
  simp -dsimp only [bx] at e ⊢
  simp -dsimp [t2, ixD, L2.atI, L2.ixN, wl, inn, i1, lenD, gtD, wipeE, joinE, e, af]
theorem bad_many (hw : ("w" : Str) ∉ ns) {l : List D} (hl : 60 < l.length) : BadP ps ns (.tup [.str "w", .tup l]) := by
  have t2 : d_is_tuple_of [.v (.tup [.str "w", .tup l]), .v (.int 2)] = .ok (.v (.bl true)) [some (.v (.tup [.str "w", .tup l])), some (.v (.int 2))] := by kernel_rfl
  have inn := in_lst (n := "w") (ns := ns)
  rw [decide_eq_false hw] at inn
  have i1 : isiT ["tuple"] [] [cBoxes, cProgram] (.tup l) = some true := rfl
  have z : (60 : Int) < l.length := by omega
  have wl := w_letter
  refine ⟨[some (.v (bx ps)), some (.v (.lst (ns.map .str))), some (.v (.tup [.str "w", .tup l]))], ?_⟩
  unfold d_is_program_part denOf m_is_program_part
  generalize D.lst (ns.map D.str) = N at inn
  simp -dsimp [t2, ixD, L2.atI, L2.ixN, wl, inn, i1, lenD, gtD, z, hl]
theorem bad_type (hw : ("w" : Str) ∉ ns) {x : D} (hx : isiT ["tuple"] [] [cBoxes, cProgram] x = some false) : BadP ps ns (.tup [.str "w", x]) := by
  have t2 : d_is_tuple_of [.v (.tup [.str "w", x]), .v (.int 2)] = .ok (.v (.bl true)) [some (.v (.tup [.str "w", x])), some (.v (.int 2))] := by kernel_rfl
  have inn := in_lst (n := "w") (ns := ns)
  rw [decide_eq_false hw] at inn
  have wl := w_letter
  refine ⟨[some (.v (bx ps)), some (.v (.lst (ns.map .str))), some (.v (.tup [.str "w", x]))], ?_⟩
  unfold d_is_program_part denOf m_is_program_part
  generalize D.lst (ns.map D.str) = N at inn
  simp -dsimp [t2, ixD, L2.atI, L2.ixN, wl, inn, hx]
theorem bad_again {n : Str} (hn : n ∈ ns) (hl : LetterOk n) (y : D) : BadP ps ns (.tup [.str n, y]) := by
  have t2 : d_is_tuple_of [.v (.tup [.str n, y]), .v (.int 2)] = .ok (.v (.bl true)) [some (.v (.tup [.str n, y])), some (.v (.int 2))] := by kernel_rfl
  have inn := in_lst (n := n) (ns := ns)
  rw [decide_eq_true hn] at inn
  obtain ⟨ρ, wl⟩ := hl
  refine ⟨[some (.v (bx ps)), some (.v (.lst (ns.map .str))), some (.v (.tup [.str n, y]))], ?_⟩
  unfold d_is_program_part denOf m_is_program_part
  generalize D.lst (ns.map D.str) = N at inn
  simp -dsimp [t2, ixD, L2.atI, L2.ixN, wl, inn]
/-- the odd ones -/
theorem bad_odd : ∀ x ∈ ([.non, .tup [.str "w"], .lst [.str "w", .tup []], .tup [.str "W", .tup []], .tup [.int 5, .tup []], .tup [.str "wwwww", .tup []], .tup [.str "w", .tup [], .tup []], .str "w"] : List D), BadP ps ns x := by
  intro x hx
  simp -dsimp only [List.mem_cons, List.mem_nil_iff, or_false] at hx
  rcases hx with rfl | rfl | rfl | rfl | rfl | rfl | rfl | rfl
  · exact bad_of (by kernel_rfl)
  · exact bad_of (by kernel_rfl)
  · exact bad_of (by kernel_rfl)
  · exact bad_of (by kernel_rfl)
  · exact bad_of (by kernel_rfl)
  · exact bad_of (by kernel_rfl)
  · exact bad_of (by kernel_rfl)
  · exact bad_of (by kernel_rfl)
end
end K84

set_option maxRecDepth 100000
set_option maxHeartbeats 4000000
namespace K84
open PySem DL
section
variable {ps : List (Str × D)} {ns : List Str}
theorem badA_of {x : D} (h : d_is_act [.v (bx ps), .v (.lst (ns.map .str)), .v x] = .ok (.v (.bl false)) [some (.v (bx ps)), some (.v (.lst (ns.map .str))), some (.v x)]) : BadA ps ns x := ⟨_, h⟩
theorem bad_step {n : Str} (hn : n ∉ ps.map (·.1)) (s : D) : ∃ ρ, d_Boxes_has_step [.v (bx ps), .v (.tup [.str n, s])] = .ok (.v (.bl false)) ρ := by
  obtain ⟨ρ', e'⟩ := has_name ps n
  rw [decide_eq_false hn] at e'
  have t2 : d_is_tuple_of [.v (.tup [.str n, s]), .v (.int 2)] = .ok (.v (.bl true)) [some (.v (.tup [.str n, s])), some (.v (.int 2))] := by kernel_rfl
  have rc : recvOk cBoxes "has_name" (.d (bx ps)) [some (.v (bx ps)), some (.v (.tup [.str n, s]))] = true := by kernel_rfl
  refine ⟨[some (.v (bx ps)), some (.v (.tup [.str n, s]))], ?_⟩
  unfold d_Boxes_has_step denOf m_Boxes_has_step
  simp -dsimp only [bx] at e' rc ⊢
  simp -dsimp [t2, rc, ixD, L2.atI, L2.ixN, e']
theorem bad_do {n : Str} {s : D} (h : ∃ ρ, d_Boxes_has_step [.v (bx ps), .v (.tup [.str n, s])] = .ok (.v (.bl false)) ρ) : BadA ps ns (.tup [.str "do", .str n, s]) := by
  obtain ⟨ρ, e⟩ := h
  refine ⟨[some (.v (bx ps)), some (.v (.lst (ns.map .str))), some (.v (.tup [.str "do", .str n, s]))], ?_⟩
  generalize D.lst (ns.map D.str) = N
  have rc : recvOk cBoxes "has_step" (.d (bx ps)) [some (.v (bx ps)), some (.v N), some (.v (.tup [.str "do", .str n, s]))] = true := by kernel_rfl
  have i1 : isiT ["tuple"] [] [cBoxes, cProgram] (.tup [.str "do", .str n, s]) = some true := rfl
  have i2 : isiT ["str"] [] [cBoxes, cProgram] (.str "do") = some true := rfl
  have ni : niD (.int 3) (.tup [.int 2, .int 3]) = some (.bl false) := by kernel_rfl
  have sl : slD (.tup [.str "do", .str n, s]) (some 1) none = some (.tup [.str n, s]) := by kernel_rfl
  unfold d_is_act denOf m_is_act
  simp -dsimp only [bx] at e rc ⊢
  simp -dsimp [i1, i2, lenD, ni, ixD, L2.atI, L2.ixN, q_do_do, sl, rc, e]
theorem bad_call {n : Str} (h : n ∉ ns) : BadA ps ns (.tup [.str "call", .str n]) := by
  obtain ⟨ρ, oe⟩ := one_of n ns
  rw [decide_eq_false h] at oe
  refine ⟨[some (.v (bx ps)), some (.v (.lst (ns.map .str))), some (.v (.tup [.str "call", .str n]))], ?_⟩
  generalize D.lst (ns.map D.str) = N at oe
  have i1 : isiT ["tuple"] [] [cBoxes, cProgram] (.tup [.str "call", .str n]) = some true := rfl
  have i2 : isiT ["str"] [] [cBoxes, cProgram] (.str "call") = some true := rfl
  have ni : niD (.int 2) (.tup [.int 2, .int 3]) = some (.bl false) := by kernel_rfl
  unfold d_is_act denOf m_is_act
  simp -dsimp only [bx]
  simp -dsimp [i1, i2, lenD, ni, ixD, L2.atI, L2.ixN, q_call_do, q_call_call, oe]
theorem bad_rep {v : D} {n : Str} (h : ∃ ρ, d_is_number [.v v, .v (.int 1), .v (.int 1000000000000)] = .ok (.v (.bl false)) ρ) : BadA ps ns (.tup [.str "repeat", v, .str n]) := by
  obtain ⟨ρ, oe⟩ := one_of n ns
  obtain ⟨ρ2, ne⟩ := h
  refine ⟨[some (.v (bx ps)), some (.v (.lst (ns.map .str))), some (.v (.tup [.str "repeat", v, .str n]))], ?_⟩
  generalize D.lst (ns.map D.str) = N at oe
  have i1 : isiT ["tuple"] [] [cBoxes, cProgram] (.tup [.str "repeat", v, .str n]) = some true := rfl
  have i2 : isiT ["str"] [] [cBoxes, cProgram] (.str "repeat") = some true := rfl
  have ni : niD (.int 3) (.tup [.int 2, .int 3]) = some (.bl false) := by kernel_rfl
  have q3 : neD (.str "repeat") (.str "repeat") = some (.bl false) := by kernel_rfl
  have q4 : neD (.int 3) (.int 3) = some (.bl false) := by kernel_rfl
  unfold d_is_act denOf m_is_act
  simp -dsimp only [bx]
  by_cases hm : n ∈ ns
  · rw [decide_eq_true hm] at oe
    simp -dsimp [i1, i2, lenD, ni, ixD, L2.atI, L2.ixN, q_rep_do, q_rep_call, q3, q4, oe, ne]
  · rw [decide_eq_false hm] at oe
    simp -dsimp [i1, i2, lenD, ni, ixD, L2.atI, L2.ixN, q_rep_do, q_rep_call, q3, q4, oe]
theorem jump_all : (kinds.all fun k => isF (d_has_step_form [.v k, .v (.tup [.str "jump"])])) = true := by decide +kernel
theorem jump_form {k : D} (hk : k ∈ kinds) : ∃ ρ, d_has_step_form [.v k, .v (.tup [.str "jump"])] = .ok (.v (.bl false)) ρ := isF_ok (List.all_eq_true.mp jump_all k hk)
theorem list_form (k : D) (l : List D) : ∃ ρ, d_has_step_form [.v k, .v (.lst l)] = .ok (.v (.bl false)) ρ := ⟨[some (.v k), some (.v (.lst l))], by kernel_rfl⟩
end
theorem step_tup {k s : D} (hk : k ∈ kinds) (hs : s ∈ steps k) : ∃ l, s = .tup l := by
  have : (kinds.all fun k => (steps k).all fun s => match s with | .tup _ => true | _ => false) = true := by decide +kernel
  have h := List.all_eq_true.mp (List.all_eq_true.mp this k hk) s hs
  cases s with
  | tup l => exact ⟨l, rfl⟩
  | _ => cases h
theorem ne_of_eq {a b : D} {c : Bool} (h : eqD a b = some (.bl c)) : neD a b = some (.bl (!c)) := by
  unfold eqD at h
  unfold neD
  cases e : eqP a b with
  | none => rw [e] at h; cases h
  | some r =>
    rw [e] at h
    simp -dsimp at h
    subst h
    rfl
end K84

set_option maxRecDepth 100000
set_option maxHeartbeats 4000000
namespace K84
open PySem DL
def doS (s : D) : D := .tup [.str "do", .str "s", s]
def wr1 (s : D) : List D := [.tup [.tup [.str "do", .str "none", s]], .tup [.tup [.str "do", .str "s", .tup [.str "jump"]]], .tup [.tup [.str "call", .str "zz"]], .tup [.tup [.str "repeat", .int 0, .str "p"]], .tup [.tup [.str "jump"]]]
def wr2 (s : D) (M : List D) : List D := [.lst [doS s], .non, .tup [.tup [.str "do", .str "s"]], .tup [.tup [.str "call", .str "w"]], .tup M]
def wr3 (l : List D) : List D := [.tup [.tup [.str "repeat", .bl true, .str "s"]], .tup [.tup [.str "do", .str "s", .lst l]], .tup [.tup []], .tup [.non], .tup [.tup [.str "call", .str "s", .str "s"]]]
def wr4 (n : Str) : List D := [.tup [.tup [.str "repeat", .int 0, .str n]], .tup [.tup [.str "repeat", .int 1000000000001, .str n]], .tup [.tup [.str "repeat", .str "2", .str n]]]
def odds : List D := [.non, .tup [.str "w"], .lst [.str "w", .tup []], .tup [.str "W", .tup []], .tup [.int 5, .tup []], .tup [.str "wwwww", .tup []], .tup [.str "w", .tup [], .tup []], .str "w"]
structure NsOk (ns : List Str) : Prop where
  nw : ("w" : Str) ∉ ns
  nz : ("zz" : Str) ∉ ns
  st : ∀ n ∈ ns, PyData.strOk n = true
  lt : ∀ n ∈ ns, LetterOk n
theorem num_bad {v : D} (h : isF (d_is_number [.v v, .v (.int 1), .v (.int 1000000000000)]) = true) : ∃ ρ, d_is_number [.v v, .v (.int 1), .v (.int 1000000000000)] = .ok (.v (.bl false)) ρ := isF_ok h
theorem wr_bad {ps : List (Str × D)} (hn : (ps.map (·.1)).Nodup) (hk : ∀ p ∈ ps, p.2 ∈ kinds) (h0 : ("none" : Str) ∉ ps.map (·.1)) {k : D} (hp : (("s" : Str), k) ∈ ps) {ns : List Str} (ok : NsOk ns) (l : List D) {M : List D} (hM : 60 < M.length) (n : Str) :
    ∀ x ∈ wr1 (.tup l) ++ wr2 (.tup l) M ++ wr3 l ++ wr4 n, BadP ps ns (.tup [.str "w", x]) := by
  intro x hx
  simp -dsimp only [wr1, wr2, wr3, wr4, List.cons_append, List.nil_append, List.mem_cons, List.mem_nil_iff, or_false] at hx
  rcases hx with rfl | rfl | rfl | rfl | rfl | rfl | rfl | rfl | rfl | rfl | rfl | rfl | rfl | rfl | rfl | rfl | rfl | rfl
  · exact bad_act ok.nw (bad_do (bad_step h0 _))
  · exact bad_act ok.nw (bad_do (has_step hn hp _ (jump_form (hk _ hp))))
  · exact bad_act ok.nw (bad_call ok.nz)
  · exact bad_act ok.nw (bad_rep (num_bad (by decide +kernel)))
  · exact bad_act ok.nw (badA_of (by kernel_rfl))
  · exact bad_type ok.nw rfl
  · exact bad_type ok.nw rfl
  · exact bad_act ok.nw (badA_of (by kernel_rfl))
  · exact bad_act ok.nw (bad_call ok.nw)
  · exact bad_many ok.nw hM
  · exact bad_act ok.nw (bad_rep (num_bad (by decide +kernel)))
  · exact bad_act ok.nw (bad_do (has_step hn hp _ (list_form k l)))
  · exact bad_act ok.nw (badA_of (by kernel_rfl))
  · exact bad_act ok.nw (badA_of (by kernel_rfl))
  · exact bad_act ok.nw (badA_of (by kernel_rfl))
  · exact bad_act ok.nw (bad_rep (num_bad (by decide +kernel)))
  · exact bad_act ok.nw (bad_rep (num_bad (by decide +kernel)))
  · exact bad_act ok.nw (bad_rep (num_bad (by decide +kernel)))
theorem wrong_part {a b : Int} (h : Ok a b) {ps : List (Str × D)} (hn : (ps.map (·.1)).Nodup) (hk : ∀ p ∈ ps, p.2 ∈ kinds) (h0 : ("none" : Str) ∉ ps.map (·.1)) {k : D} {pr : List (Str × D)} (hp : ps = (("s" : Str), k) :: pr) {ns : List Str} (ok : NsOk ns) :
    ∃ x, BadP ps ns x ∧ ∃ a' b', Ok a' b' ∧ d__law_wrong_part [src a b, .v (.tup (ps.map prD)), .v (.lst (ns.map .str))] = .ok (.v x) [some (src a' b'), some (.v (.tup (ps.map prD))), some (.v (.lst (ns.map .str)))] := by
  have hm : (("s" : Str), k) ∈ ps := by rw [hp]; exact List.mem_cons_self
  obtain ⟨s, hs, a1, b1, h1, e1⟩ := step h letA (hk _ hm)
  obtain ⟨l, rfl⟩ := step_tup (hk _ hm) hs
  obtain ⟨M, hM, lM⟩ : ∃ M, mulD (.tup [doS (.tup l)]) (.int 61) = some (.tup M) ∧ 60 < M.length := ⟨(List.replicate 61 [doS (.tup l)]).flatten, by kernel_rfl, by simp -dsimp⟩
  have p12 : powD (.int 10) (.int 12) = some (.int 1000000000000) := by kernel_rfl
  have ll : listD (.tup l) = some (.lst l) := rfl
  have nq : neD (.lst (ns.map D.str)) (.lst []) = some (.bl (!decide (ns = []))) := ne_of_eq (eq_nil ok.st)
  have ix0 : ixD (.tup (ps.map prD)) (.int 0) = some (.tup [.str "s", k]) := by
    subst hp
    simp -dsimp [ixD, L2.atI, L2.ixN, prD]
  have base := wr_bad hn hk h0 hm ok l lM
  simp -dsimp only [src, doS] at e1 hM
  have odd : ∀ a b, Ok a b → ∃ x ∈ odds, ∃ a' b', Ok a' b' ∧ d__law_one [src a b, .v (.lst odds)] = .ok (.v x) [some (src a' b'), some (.v (.lst odds))] := fun a b h => one_l a b h odds (by simp -dsimp [odds]) (by simp -dsimp [odds])
  simp -dsimp only [odds] at odd
  by_cases c0 : ns = []
  · obtain ⟨y, hy, a2, b2, h2, e2⟩ := odd a1 b1 h1
    obtain ⟨i, a3, b3, i0, i1, h3, e3⟩ := take a2 b2 2 h2 (by omega) (by omega)
    obtain ⟨z, hz, a4, b4, h4, e4⟩ := one_l a3 b3 h3 (wr1 (.tup l) ++ wr2 (.tup l) M ++ wr3 l) (by simp -dsimp [wr1]) (by simp -dsimp [wr1, wr2, wr3])
    simp -dsimp only [src, wr1, wr2, wr3, doS, List.cons_append, List.nil_append] at e2 e3 e4 hz
    have nq0 : neD (.lst (ns.map D.str)) (.lst []) = some (.bl false) := by rw [nq]; simp -dsimp [c0]
    by_cases c1 : i = 0
    · refine ⟨.tup [.str "w", z], base "p" z (List.mem_append_left _ (by simpa only [wr1, wr2, wr3, doS, List.cons_append, List.nil_append] using hz)), a4, b4, h4, ?_⟩
      generalize D.lst (ns.map D.str) = N at nq0
      unfold d__law_wrong_part denOf m__law_wrong_part
      simp -dsimp only [src]
      simp -dsimp [ix0, e1, hM, p12, ll, nq0, addD, e2, e3, e4, c1]
    · refine ⟨y, bad_odd y hy, a3, b3, h3, ?_⟩
      generalize D.lst (ns.map D.str) = N at nq0
      unfold d__law_wrong_part denOf m__law_wrong_part
      simp -dsimp only [src]
      simp -dsimp [ix0, e1, hM, p12, ll, nq0, addD, e2, e3, e4, c1]
  · obtain ⟨n0, nr, hns⟩ : ∃ n0 nr, ns = n0 :: nr := by
      cases ns with
      | nil => exact absurd rfl c0
      | cons x r => exact ⟨x, r, rfl⟩
    have nq0 : neD (.lst (ns.map D.str)) (.lst []) = some (.bl true) := by rw [nq]; simp -dsimp [c0]
    have nx0 : ixD (.lst (ns.map D.str)) (.int 0) = some (.str n0) := by
      subst hns
      simp -dsimp [ixD, L2.atI, L2.ixN]
    have n0m : n0 ∈ ns := by rw [hns]; exact List.mem_cons_self
    obtain ⟨j, a5, b5, j0, j1, h5, e5⟩ := take a1 b1 4 h1 (by omega) (by omega)
    by_cases cj : j = 0
    · refine ⟨.tup [.str n0, .tup []], bad_again n0m (ok.lt _ n0m) _, a5, b5, h5, ?_⟩
      generalize D.lst (ns.map D.str) = N at nq0 nx0
      unfold d__law_wrong_part denOf m__law_wrong_part
      simp -dsimp only [src] at e5 ⊢
      simp -dsimp [ix0, e1, hM, p12, ll, nq0, nx0, addD, e5, cj]
    obtain ⟨y, hy, a2, b2, h2, e2⟩ := odd a5 b5 h5
    obtain ⟨i, a3, b3, i0, i1, h3, e3⟩ := take a2 b2 2 h2 (by omega) (by omega)
    obtain ⟨z, hz, a4, b4, h4, e4⟩ := one_l a3 b3 h3 (wr1 (.tup l) ++ wr2 (.tup l) M ++ wr3 l ++ wr4 n0) (by simp -dsimp [wr1]) (by simp -dsimp [wr1, wr2, wr3, wr4])
    simp -dsimp only [src, wr1, wr2, wr3, wr4, doS, List.cons_append, List.nil_append] at e2 e3 e4 e5 hz
    by_cases c1 : i = 0
    · refine ⟨.tup [.str "w", z], base n0 z (by simpa only [wr1, wr2, wr3, wr4, doS, List.cons_append, List.nil_append] using hz), a4, b4, h4, ?_⟩
      generalize D.lst (ns.map D.str) = N at nq0 nx0
      unfold d__law_wrong_part denOf m__law_wrong_part
      simp -dsimp only [src]
      simp -dsimp [ix0, e1, hM, p12, ll, nq0, nx0, addD, e2, e3, e4, e5, cj, c1]
    · refine ⟨y, bad_odd y hy, a3, b3, h3, ?_⟩
      generalize D.lst (ns.map D.str) = N at nq0 nx0
      unfold d__law_wrong_part denOf m__law_wrong_part
      simp -dsimp only [src]
      simp -dsimp [ix0, e1, hM, p12, ll, nq0, nx0, addD, e2, e3, e4, e5, cj, c1]
end K84

set_option maxRecDepth 100000
set_option maxHeartbeats 4000000
namespace DL
open PySem
section
variable {ρ : Env} {xs : List Addr} {i : Nat} {mb : MS} {hs : List (Addr × MH)}
@[simp] theorem e_tryT : mTryT xs i mb hs ρ = match mb ρ with
  | .exc c fs ρ1 => pickT xs i c fs ρ1 hs
  | r => r := rfl
@[simp] theorem makeSet_exc {c : Addr} {fs : List (Str × D)} {ρc : Env} : makeSet ρ (.exc c fs ρc) = .exc c fs ρ := rfl
end
end DL
namespace K84
open PySem DL
theorem told_pick (B X : D) (i : Int) : pickT cEXC 2 cNoProgram [("told", .int i)] [some (.v B), some (.v X), none] [(cNoBoxes, hRepr cEXC "told" (.str "boxes")), (cNoProgram, hTold cEXC "told" (.str "program"))] = .ok (.ret (.v (.tup [.str "program", .int i]))) [some (.v B), some (.v X), none] := by
  kernel_rfl
theorem made_wrong {ps : List (Str × D)} (hn : (ps.map (·.1)).Nodup) (hk : ∀ p ∈ ps, p.2 ∈ kinds) {w : D} {pl : List (Str × D)} {S : List D} (h1 : pl.length + S.length ≤ 5) (hr : RunA ps [] pl)
    (hw : BadP ps (pl.map (·.1)) w) : ∃ ρ, d__law_made [.v (bx ps), .v (.lst (pl.map prD ++ w :: S))] = .ok (.v (.tup [.str "program", .int pl.length])) ρ := by
  obtain ⟨ρ, e⟩ := program_wrong hn hk (X := .lst (pl.map prD ++ w :: S)) rfl h1 hr hw
  generalize D.lst (pl.map prD ++ w :: S) = X at e
  generalize (pl.length : Int) = i at e
  refine ⟨[some (.v (bx ps)), some (.v X)], ?_⟩
  have tp := told_pick (bx ps) X i
  unfold d__law_made denOf m__law_made
  simp -dsimp [e, tp]
theorem made_odd (ps : List (Str × D)) : ∀ x ∈ ([.non, .int 5, .tup [], .lst [], .str "main", .dic [] []] : List D), d__law_made [.v (bx ps), .v x] = .ok (.v (.tup [.str "program", .non])) [some (.v (bx ps)), some (.v x)] := by
  intro x hx
  simp -dsimp only [List.mem_cons, List.mem_nil_iff, or_false] at hx
  rcases hx with rfl | rfl | rfl | rfl | rfl | rfl <;> kernel_rfl
def rp (d : D) : D := (reprD d).getD .non
theorem made_odd2 : ∀ x ∈ ([.non, .int 5, .tup [], .lst [], .str "main", .dic [] []] : List D), d__law_made [.v x, .v .non] = .ok (.v (.tup [.str "boxes", rp x])) [some (.v x), some (.v .non)] ∧ reprL [x] = some (rp x) ∧ neD (.tup [.str "boxes", rp x]) (.tup [.str "boxes", rp x]) = some (.bl false) := by
  intro x hx
  simp -dsimp only [List.mem_cons, List.mem_nil_iff, or_false] at hx
  rcases hx with rfl | rfl | rfl | rfl | rfl | rfl <;> exact ⟨by kernel_rfl, by kernel_rfl, by kernel_rfl⟩
def many : List D := [.tup [.str "a", .tup []], .tup [.str "aa", .tup []], .tup [.str "aaa", .tup []], .tup [.str "aaaa", .tup []], .tup [.str "b", .tup []], .tup [.str "bb", .tup []], .tup [.str "bbb", .tup []]]
theorem made_many (ps : List (Str × D)) : d__law_made [.v (bx ps), .v (.lst many)] = .ok (.v (.tup [.str "program", .non])) [some (.v (bx ps)), some (.v (.lst many))] := by kernel_rfl
theorem made_six (ps : List (Str × D)) : d__law_made [.v (bx ps), .v (.lst (many.take 6))] = .ok (.v (.tup [.str "made", .tup (many.take 6)])) [some (.v (bx ps)), some (.v (.lst (many.take 6)))] := by kernel_rfl
def oth : List D := [.non, .int 3, .str "zz", .tup [.str "main"], .lst [.tup [.str "s", .tup [.str "pop", .str "a"]]], .tup [.tup [.str "none", .tup [.str "pop", .str "a"]]]]
def whichs : List D := [.str "part", .str "row", .str "boxes", .str "program"]
end K84

set_option maxRecDepth 100000
set_option maxHeartbeats 4000000
namespace K84
open PySem DL
def Oth (ps pl : List (Str × D)) (i : Int) (k x : D) : Prop := ∃ ρ, d__law_other [.v (.int i), .v (pg ps pl), .v x] = .ok (.v (.tup [k, rp x])) ρ
theorem oth_of {ps pl : List (Str × D)} {i : Int} {k x : D} (h : d__law_other [.v (.int i), .v (pg ps pl), .v x] = .ok (.v (.tup [k, rp x])) [some (.v (.int i)), some (.v (pg ps pl)), some (.v x)]) : Oth ps pl i k x := ⟨_, h⟩
theorem oth_zz {ps pl : List (Str × D)} (hz : pl.length ≤ 1000) (h : ("zz" : Str) ∉ pl.map (·.1)) : Oth ps pl 0 (.str "part") (.str "zz") := by
  have nm := names_D (ps := ps) (pl := pl) hz
  obtain ⟨ρ1, e1⟩ := one_of "zz" (pl.map (·.1))
  rw [decide_eq_false h] at e1
  have rc1 : ∀ c, recvOk cProgram "names" (.d (pg ps pl)) [some (.v (pg ps pl)), c] = true := fun c => by kernel_rfl
  have ao : d_Program_acts_of [.v (pg ps pl), .v (.str "zz")] = .exc cNoPart [("told", .str "zz")] [some (.v (pg ps pl)), some (.v (.str "zz"))] := by
    generalize pl.map (·.1) = ns at nm e1
    unfold d_Program_acts_of denOf m_Program_acts_of
    simp -dsimp [rc1, nm, e1]
  have rc2 : recvOk cProgram "acts_of" (.d (pg ps pl)) [some (.v (.int 0)), some (.v (pg ps pl)), some (.v (.str "zz")), none] = true := by kernel_rfl
  have pk : ∀ P, pickT cEXC 3 cNoPart [("told", .str "zz")] [some (.v (.int 0)), some (.v P), some (.v (.str "zz")), none] [(cNoPart, hRepr cEXC "told" (.str "part")), (cNoRow, hRepr cEXC "told" (.str "row")), (cNoBoxes, hRepr cEXC "told" (.str "boxes")), (cNoProgram, hRepr cEXC "told" (.str "program"))] = .ok (.ret (.v (.tup [.str "part", rp (.str "zz")]))) [some (.v (.int 0)), some (.v P), some (.v (.str "zz")), none] := fun P => by kernel_rfl
  have pk := pk (pg ps pl)
  refine ⟨[some (.v (.int 0)), some (.v (pg ps pl)), some (.v (.str "zz"))], ?_⟩
  unfold d__law_other denOf m__law_other
  simp -dsimp only [pg] at ao rc2 pk ⊢
  simp -dsimp [rc2, ao, pk]
theorem oth_none {ps pl : List (Str × D)} (h0 : ("none" : Str) ∉ ps.map (·.1)) : Oth ps pl 1 (.str "row") (.tup [.tup [.str "none", .tup [.str "pop", .str "a"]]]) := by
  obtain ⟨ρ1, e1⟩ := bad_step h0 (.tup [.str "pop", .str "a"])
  have bd := boxes_D ps pl
  have rcs : ∀ a c, recvOk cBoxes "has_step" (.d (bx ps)) [some (.v (bx ps)), a, c] = true := fun a c => by kernel_rfl
  have is : isiT ["tuple"] [] [cBoxes, cProgram] (.tup [.tup [.str "none", .tup [.str "pop", .str "a"]]]) = some true := rfl
  have is2 := bx_isi ps
  have af : allD (.lst [.bl false]) = some (.bl false) := by kernel_rfl
  have mr : d_is_mixed_row [.v (bx ps), .v (.tup [.tup [.str "none", .tup [.str "pop", .str "a"]]])] = .ok (.v (.bl false)) [some (.v (bx ps)), some (.v (.tup [.tup [.str "none", .tup [.str "pop", .str "a"]]]))] := by
    unfold d_is_mixed_row denOf m_is_mixed_row
    simp -dsimp [is, lenD, leD, rcs, e1, wipeE, joinE, af]
  have fr : d_Program_from_row [.v (bx ps), .v (.tup [.tup [.str "none", .tup [.str "pop", .str "a"]]])] = .exc cNoRow [("told", .tup [.tup [.str "none", .tup [.str "pop", .str "a"]]])] [some (.v (bx ps)), some (.v (.tup [.tup [.str "none", .tup [.str "pop", .str "a"]]]))] := by
    unfold d_Program_from_row denOf m_Program_from_row
    simp -dsimp [is2, mr]
  have rc2 : ∀ c, recvOk cProgram "boxes" (.d (pg ps pl)) [some (.v (.int 1)), some (.v (pg ps pl)), c, none] = true := fun c => by kernel_rfl
  have rc3 : ∀ c, recvOk cProgram "boxes" (.sl 1) [some (.v (.int 1)), some (.v (pg ps pl)), c, none] = true := fun c => by kernel_rfl
  have pk : ∀ P, pickT cEXC 3 cNoRow [("told", .tup [.tup [.str "none", .tup [.str "pop", .str "a"]]])] [some (.v (.int 1)), some (.v P), some (.v (.tup [.tup [.str "none", .tup [.str "pop", .str "a"]]])), none] [(cNoPart, hRepr cEXC "told" (.str "part")), (cNoRow, hRepr cEXC "told" (.str "row")), (cNoBoxes, hRepr cEXC "told" (.str "boxes")), (cNoProgram, hRepr cEXC "told" (.str "program"))] = .ok (.ret (.v (.tup [.str "row", rp (.tup [.tup [.str "none", .tup [.str "pop", .str "a"]]])]))) [some (.v (.int 1)), some (.v P), some (.v (.tup [.tup [.str "none", .tup [.str "pop", .str "a"]]])), none] := fun P => by kernel_rfl
  have pk := pk (pg ps pl)
  refine ⟨[some (.v (.int 1)), some (.v (pg ps pl)), some (.v (.tup [.tup [.str "none", .tup [.str "pop", .str "a"]]]))], ?_⟩
  unfold d__law_other denOf m__law_other
  simp -dsimp only [pg, bx] at bd fr rc2 rc3 pk ⊢
  simp -dsimp [rc2, rc3, bd, fr, pk]
theorem other {ps pl : List (Str × D)} (hz : pl.length ≤ 1000) (h : ("zz" : Str) ∉ pl.map (·.1)) (h0 : ("none" : Str) ∉ ps.map (·.1)) : ∀ x ∈ oth, Oth ps pl 0 (.str "part") x ∧ Oth ps pl 1 (.str "row") x ∧ Oth ps pl 2 (.str "boxes") x ∧ Oth ps pl 3 (.str "program") x := by
  intro x hx
  simp -dsimp only [oth, List.mem_cons, List.mem_nil_iff, or_false] at hx
  rcases hx with rfl | rfl | rfl | rfl | rfl | rfl
  · exact ⟨oth_of (by kernel_rfl), oth_of (by kernel_rfl), oth_of (by kernel_rfl), oth_of (by kernel_rfl)⟩
  · exact ⟨oth_of (by kernel_rfl), oth_of (by kernel_rfl), oth_of (by kernel_rfl), oth_of (by kernel_rfl)⟩
  · exact ⟨oth_zz hz h, oth_of (by kernel_rfl), oth_of (by kernel_rfl), oth_of (by kernel_rfl)⟩
  · exact ⟨oth_of (by kernel_rfl), oth_of (by kernel_rfl), oth_of (by kernel_rfl), oth_of (by kernel_rfl)⟩
  · exact ⟨oth_of (by kernel_rfl), oth_of (by kernel_rfl), oth_of (by kernel_rfl), oth_of (by kernel_rfl)⟩
  · exact ⟨oth_of (by kernel_rfl), oth_none h0, oth_of (by kernel_rfl), oth_of (by kernel_rfl)⟩
theorem oth_rp : ∀ x ∈ oth, reprL [x] = some (rp x) ∧ neD (.tup [.str "part", rp x]) (.tup [.str "part", rp x]) = some (.bl false) ∧ neD (.tup [.str "row", rp x]) (.tup [.str "row", rp x]) = some (.bl false) ∧ neD (.tup [.str "boxes", rp x]) (.tup [.str "boxes", rp x]) = some (.bl false) ∧ neD (.tup [.str "program", rp x]) (.tup [.str "program", rp x]) = some (.bl false) := by
  intro x hx
  simp -dsimp only [oth, List.mem_cons, List.mem_nil_iff, or_false] at hx
  rcases hx with rfl | rfl | rfl | rfl | rfl | rfl <;> exact ⟨by kernel_rfl, by kernel_rfl, by kernel_rfl, by kernel_rfl, by kernel_rfl⟩
end K84

set_option maxRecDepth 100000
set_option maxHeartbeats 4000000
namespace DL
open PySem
theorem cut_take {α : Type} {l : List α} {i : Nat} (h : i ≤ l.length) : cutD l none (some (i : Int)) = l.take i := by
  have e1 : HT.sIx l.length l.length (some (i : Int)) = i := by rw [HT.sIx_nat]; omega
  have e0 : HT.sIx l.length 0 none = 0 := rfl
  unfold cutD
  rw [e1, e0]; simp -dsimp
theorem cut_drop {α : Type} {l : List α} {i : Nat} (h : i ≤ l.length) : cutD l (some (i : Int)) none = l.drop i := by
  have e1 : HT.sIx l.length 0 (some (i : Int)) = i := by rw [HT.sIx_nat]; omega
  have e0 : HT.sIx l.length l.length none = l.length := rfl
  unfold cutD
  rw [e1, e0, List.take_of_length_le (by simp -dsimp)]
end DL
namespace K84
open PySem DL
theorem names_loop (c0 c1 c2 c3 c4 c5 c6 c7 c8 c9 c10 c13 c14 : Option DL.C) (l0 : List D) : ∀ (r : List (Str × D)),
    compM (gT 2 (gNs (gW 11) (gNs (gW 12) gNs0))) tYesM (mV (qVar 11)) [11, 12] none l0 (r.map prD) [c0, c1, c2, c3, c4, c5, c6, c7, c8, c9, c10, none, none, c13, c14] =
      .ok ((r.map (·.1)).map .str) [c0, c1, c2, c3, c4, c5, c6, c7, c8, c9, c10, none, none, c13, c14]
  | [] => rfl
  | p :: r => by
    have ih := names_loop c0 c1 c2 c3 c4 c5 c6 c7 c8 c9 c10 c13 c14 l0 r
    rw [List.map_cons, c_cons]
    simp -dsimp only [List.map_map] at ih
    simp -dsimp [prD, wipeE, ih]
theorem many_add (c0 c1 c2 c3 c4 c5 c6 c7 c8 : Option DL.C) :
    (mBin addD (mFrz (mComp (iRange2 (mV (qC (.int (1)))) (mV (qC (.int (5))))) none (gW 13) tYesM (mTup (mCons (mBin mulD (mV (qC (.str "a"))) (mV (qVar 13))) (mCons (mTup mNil) mNil))) [13])) (mFrz (mComp (iRange2 (mV (qC (.int (1)))) (mV (qC (.int (4))))) none (gW 13) tYesM (mTup (mCons (mBin mulD (mV (qC (.str "b"))) (mV (qVar 13))) (mCons (mTup mNil) mNil))) [13]))) [c0, c1, c2, c3, c4, c5, c6, c7, c8, none, none, none, none, none, none]
      = .ok (.lst many) [c0, c1, c2, c3, c4, c5, c6, c7, c8, none, none, none, none, none, none] := by kernel_rfl
theorem cut_many : slD (.lst many) none (some 6) = some (.lst (many.take 6)) := by kernel_rfl
end K84

set_option maxRecDepth 100000
set_option maxHeartbeats 8000000
namespace K84
open PySem DL
theorem RunA.take {ps : List (Str × D)} {pl : List (Str × D)} (h : RunA ps [] pl) (i : Nat) : RunA ps [] (pl.take i) := by
  have e : pl = pl.take i ++ pl.drop i := (List.take_append_drop i pl).symm
  rw [e] at h
  exact (RunA.app.mp h).1
theorem NsOk.take {ns : List Str} (h : NsOk ns) (i : Nat) : NsOk (ns.take i) :=
  ⟨fun z => h.nw (List.mem_of_mem_take z), fun z => h.nz (List.mem_of_mem_take z), fun n z => h.st n (List.mem_of_mem_take z), fun n z => h.lt n (List.mem_of_mem_take z)⟩
theorem refused {a b : Int} (h : Ok a b) {ps : List (Str × D)} (hb : BxOk ps) (h0 : ("none" : Str) ∉ ps.map (·.1)) {k : D} {pr : List (Str × D)} (hp : ps = (("s" : Str), k) :: pr) {pl : List (Str × D)} (hr : RunA ps [] pl) (hz : pl.length ≤ 4) (ok : NsOk (pl.map (·.1))) :
    ∃ a' b', Ok a' b' ∧ d__law_refused [src a b, .v (pg ps pl), .v (bx ps), .v (.tup (ps.map prD)), .v (.tup (pl.map prD))] = .ok (.v (.bl true)) [some (src a' b'), some (.v (pg ps pl)), some (.v (bx ps)), some (.v (.tup (ps.map prD))), some (.v (.tup (pl.map prD)))] := by
  obtain ⟨i, a1, b1, i0, i1, h1, e1⟩ := take a b (pl.length + 1) h (by omega) (by omega)
  obtain ⟨j, rfl⟩ : ∃ j : Nat, i = j := ⟨i.toNat, by omega⟩
  have jl : j ≤ pl.length := by omega
  have ct : cutD (pl.map prD) none (some (j : Int)) = (pl.take j).map prD := by rw [cut_take (by rw [List.length_map]; exact jl), List.map_take]
  have cd : cutD (pl.map prD) (some (j : Int)) none = (pl.drop j).map prD := by rw [cut_drop (by rw [List.length_map]; exact jl), List.map_drop]
  have nl := names_loop (some (src a1 b1)) (some (.v (pg ps pl))) (some (.v (bx ps))) (some (.v (.tup (ps.map prD)))) (some (.v (.tup (pl.map prD)))) (some (.v (.int j))) none none none none none none none ((pl.take j).map prD) (pl.take j)
  have okt : NsOk ((pl.take j).map (·.1)) := by rw [List.map_take]; exact ok.take j
  obtain ⟨w, hw, a2, b2, h2, e2⟩ := wrong_part h1 hb.nd hb.kd h0 hp okt
  have tl : (pl.take j).length = j := by rw [List.length_take]; omega
  obtain ⟨ρ3, e3⟩ := made_wrong hb.nd hb.kd (S := (pl.drop j).map prD) (by rw [tl, List.length_map, List.length_drop]; omega) (hr.take j) hw
  rw [tl] at e3
  obtain ⟨x, hx, a4, b4, h4, e4⟩ := one_l a2 b2 h2 oth (by simp -dsimp [oth]) (by simp -dsimp [oth])
  refine ⟨a4, b4, h4, ?_⟩
  have q3 : neD (.tup [.str "program", .int j]) (.tup [.str "program", .int j]) = some (.bl false) := neD_same 2 (by omega) (by show (PyData.strOk "program" && (true && true)) = true; decide +kernel)
  have q4 : neD (.tup [.str "program", .non]) (.tup [.str "program", .non]) = some (.bl false) := by kernel_rfl
  have q5 : neD (.str "made") (.str "made") = some (.bl false) := by kernel_rfl
  have q6 : eqD (.lst []) (.lst []) = some (.bl true) := by kernel_rfl
  have mo := made_odd ps
  have mo2 := made_odd2
  simp -dsimp only [List.forall_mem_cons, List.not_mem_nil, false_imp_iff, implies_true, and_true] at mo mo2
  obtain ⟨m1, m2, m3, m4, m5, m6⟩ := mo
  obtain ⟨⟨n1, n1', n1''⟩, ⟨n2, n2', n2''⟩, ⟨n3, n3', n3''⟩, ⟨n4, n4', n4''⟩, ⟨n5, n5', n5''⟩, n6, n6', n6''⟩ := mo2
  have mm := made_many ps
  have ms := made_six ps
  obtain ⟨⟨r1, o1⟩, ⟨r2, o2⟩, ⟨r3, o3⟩, r4, o4⟩ := other (ps := ps) (pl := pl) (by omega) ok.nz h0 x hx
  obtain ⟨p0, p1, p2, p3, p4⟩ := oth_rp x hx
  have ld : lenD (.tup (pl.map prD)) = some (.int pl.length) := by rw [lenD, List.length_map]
  have zs : ((pl.take j).map prD).length + 1 ≤ 16777216 := by rw [List.length_map, tl]; omega
  have zt : ((pl.take j).map prD).length ≤ 1000000 := by rw [List.length_map, tl]; omega
  have zd : ((pl.take j).map prD).length + 1 + ((pl.drop j).map prD).length ≤ 16777216 := by rw [List.length_map, List.length_map, tl, List.length_drop]; omega
  have ma := many_add
  simp -dsimp only [src] at e1 e2 e4 nl ⊢
  generalize ((pl.take j).map (·.1)).map D.str = NN at nl e2
  generalize (pl.take j).map prD = T1 at ct nl e3 zs zt zd
  generalize (pl.drop j).map prD = T2 at cd e3 zd
  generalize hT : D.tup (pl.map prD) = TP at ld e1 nl ⊢
  have sl1 : slD TP none (some (j : Int)) = some (.tup T1) := by rw [← hT]; simp -dsimp [slD, ct]
  have sl2 : slD TP (some (j : Int)) none = some (.tup T2) := by rw [← hT]; simp -dsimp [slD, cd]
  have lt : ∀ l : List D, listD (.tup l) = some (.lst l) := fun _ => rfl
  have ad1 : addD (.lst T1) (.lst [w]) = some (.lst (T1 ++ [w])) := by simp -dsimp [addD, zs]
  have ad2 : addD (.lst (T1 ++ [w])) (.lst T2) = some (.lst (T1 ++ w :: T2)) := by
    have : (T1 ++ [w]).length + T2.length ≤ 16777216 := by simp -dsimp at zd ⊢; omega
    simp -dsimp only [addD, sz_eq, if_pos this]
    simp -dsimp
  have adl : addD (.int (pl.length : Int)) (.int 1) = some (.int (pl.length + 1)) := rfl
  generalize D.tup (ps.map prD) = PT at e1 e2 e4 nl ⊢
  generalize hX : T1 ++ w :: T2 = X7 at e3 ad2
  generalize hB : bx ps = B at *
  generalize hP : pg ps pl = P at *
  unfold d__law_refused denOf m__law_refused
  simp -dsimp only [oth] at e4
  have rg : rngD 0 4 = [.int 0, .int 1, .int 2, .int 3] := by kernel_rfl
  have sm := cut_many
  have irA : ∀ ρ, iRange2 (mV (qC (.int 1))) (mV (qC (.int 5))) ρ = .ok [.int 1, .int 2, .int 3, .int 4] ρ := fun ρ => by kernel_rfl
  have irB : ∀ ρ, iRange2 (mV (qC (.int 1))) (mV (qC (.int 4))) ρ = .ok [.int 1, .int 2, .int 3] ρ := fun ρ => by kernel_rfl
  have u1 : mulD (.str "a") (.int 1) = some (.str "a") := by kernel_rfl
  have u2 : mulD (.str "a") (.int 2) = some (.str "aa") := by kernel_rfl
  have u3 : mulD (.str "a") (.int 3) = some (.str "aaa") := by kernel_rfl
  have u4 : mulD (.str "a") (.int 4) = some (.str "aaaa") := by kernel_rfl
  have v1 : mulD (.str "b") (.int 1) = some (.str "b") := by kernel_rfl
  have v2 : mulD (.str "b") (.int 2) = some (.str "bb") := by kernel_rfl
  have v3 : mulD (.str "b") (.int 3) = some (.str "bbb") := by kernel_rfl
  have adm : addD (.lst [.tup [.str "a", .tup []], .tup [.str "aa", .tup []], .tup [.str "aaa", .tup []], .tup [.str "aaaa", .tup []]]) (.lst [.tup [.str "b", .tup []], .tup [.str "bb", .tup []], .tup [.str "bbb", .tup []]]) = some (.lst many) := by kernel_rfl
  simp -dsimp only [many, List.take_succ_cons, List.take_zero] at mm sm ms adm
  simp -dsimp [ld, adl, e1, sl1, nl, zt, wipeE, joinE, e2, lt, ad1, sl2, ad2, e3, q3, m1, m2, m3, m4, m5, m6, n1, n2, n3, n4, n5, n6, n1', n2', n3', n4', n5', n6', n1'', n2'', n3'', n4'', n5'', n6'', q4, irA, irB, u1, u2, u3, u4, v1, v2, v3, adm, mm, sm, ms, ixD, L2.atI, L2.ixN, q5, e4]
  simp -dsimp [rg, wipeE, joinE, o1, o2, o3, o4, p0, p1, p2, p3, p4, ixD, L2.atI, L2.ixN, q6]
end K84

set_option maxRecDepth 100000
set_option maxHeartbeats 8000000
namespace K84
open PySem DL
theorem names_law (c0 c1 c2 c3 c4 c5 c6 c7 c8 c9 c10 c13 c14 c15 : Option DL.C) (l0 : List D) : ∀ (r : List (Str × D)),
    compM (gT 2 (gNs (gW 11) (gNs (gW 12) gNs0))) tYesM (mV (qVar 11)) [11, 12] none l0 (r.map prD) [c0, c1, c2, c3, c4, c5, c6, c7, c8, c9, c10, none, none, c13, c14, c15] =
      .ok ((r.map (·.1)).map .str) [c0, c1, c2, c3, c4, c5, c6, c7, c8, c9, c10, none, none, c13, c14, c15]
  | [] => rfl
  | p :: r => by
    have ih := names_law c0 c1 c2 c3 c4 c5 c6 c7 c8 c9 c10 c13 c14 c15 l0 r
    rw [List.map_cons, c_cons]
    simp -dsimp only [List.map_map] at ih
    simp -dsimp [prD, wipeE, ih]
theorem PgOk.it {ps pl : List (Str × D)} (h : PgOk ps pl) : ∀ p ∈ pl, dtB 3 p.2 = true := by
  intro p hp
  have := List.all_eq_true.mp (dtB_tup (n := 4) ▸ h.dt) (prD p) (List.mem_map.mpr ⟨p, hp, rfl⟩)
  have e : dtB 4 (prD p) = (dtB 3 (.str p.1) && (dtB 3 p.2 && true)) := rfl
  rw [e] at this
  exact (Bool.and_eq_true_iff.mp (Bool.and_eq_true_iff.mp this).2).1
theorem acts_law {ps pl : List (Str × D)} (h : PgOk ps pl) (c0 c1 c2 c3 c4 c5 c7 c8 c9 c10 c13 c14 c15 : Option DL.C) (l0 : List D) : ∀ (r : List (Str × D)), (∀ p ∈ r, p ∈ pl) →
    compM (gT 2 (gNs (gW 11) (gNs (gW 12) gNs0))) (mB (mBin (orD (orD neD (neT cBoxes [cBoxes, cProgram] d_Boxes_eq)) (neT cProgram [cBoxes, cProgram] d_Program_eq)) (mFrz (mMeth cProgram "acts_of" 2 d_Program_acts_of (aSlot 6) (aCons (aSlot 11) aNil))) (mV (qVar 12)))) (mV (qVar 11)) [11, 12] none l0 (r.map prD) [c0, c1, c2, c3, c4, c5, some (.v (pg ps pl)), c7, c8, c9, c10, none, none, c13, c14, c15] =
      .ok [] [c0, c1, c2, c3, c4, c5, some (.v (pg ps pl)), c7, c8, c9, c10, none, none, c13, c14, c15]
  | [], _ => rfl
  | p :: r, hr => by
    have ih := acts_law h c0 c1 c2 c3 c4 c5 c7 c8 c9 c10 c13 c14 c15 l0 r fun z hz => hr z (List.mem_cons_of_mem _ hz)
    obtain ⟨ρ, e⟩ := acts_D (ps := ps) h.nd h.sz (hr p List.mem_cons_self)
    have ne : orD (orD neD (neT cBoxes [cBoxes, cProgram] d_Boxes_eq)) (neT cProgram [cBoxes, cProgram] d_Program_eq) p.2 p.2 = some (.bl false) := NE_of (neD_same 3 (by omega) (h.it p (hr p List.mem_cons_self)))
    have rc : ∀ a b c d e f g h i j k l m n o, recvOk cProgram "acts_of" (.d (pg ps pl)) [a, b, c, d, e, f, some (.v (pg ps pl)), g, h, i, j, k, l, m, n, o] = true := fun a b c d e f g h i j k l m n o => by kernel_rfl
    rw [List.map_cons, c_cons]
    simp -dsimp only [pg] at e rc ih ⊢
    simp -dsimp [prD, rc, e, ne, wipeE, ih]
theorem row_law (c0 c1 c2 c3 c4 c5 c6 c7 c8 c9 c10 c11 c12 c13 c14 : Option DL.C) (l0 : List D) : ∀ (r : List (Str × D)),
    compM (gW 15) tYesM (mBin addD (mTup (mCons (mV (qC (.str "do"))) mNil)) (mV (qVar 15))) [15] none l0 (r.map prD) [c0, c1, c2, c3, c4, c5, c6, c7, c8, c9, c10, c11, c12, c13, c14, none] =
      .ok (r.map doA) [c0, c1, c2, c3, c4, c5, c6, c7, c8, c9, c10, c11, c12, c13, c14, none]
  | [] => rfl
  | p :: r => by
    have ih := row_law c0 c1 c2 c3 c4 c5 c6 c7 c8 c9 c10 c11 c12 c13 c14 l0 r
    rw [List.map_cons, c_cons]
    simp -dsimp [prD, doA, addD, wipeE, ih]
end K84

set_option maxRecDepth 100000
set_option maxHeartbeats 4000000
namespace K84
open PySem DL
theorem act_dt {ps : List (Str × D)} {ns : List Str} {a : D} (hs : ∀ p ∈ ps, PyData.strOk p.1 = true) (hk : ∀ p ∈ ps, p.2 ∈ kinds) (hn : ∀ n ∈ ns, PyData.strOk n = true) (h : Act ps ns a) : dtB 2 a = true := by
  cases h with
  | @do_ n k s h hst =>
    show (PyData.strOk "do" && (PyData.strOk n && (dtB 1 s && true))) = true
    rw [hs _ h, step_dt (hk _ h) hst]
    decide +kernel
  | @call n h =>
    show (PyData.strOk "call" && (PyData.strOk n && true)) = true
    rw [hn _ h]
    decide +kernel
  | @rep i n h0 h1 h =>
    show (PyData.strOk "repeat" && (true && (PyData.strOk n && true))) = true
    rw [hn _ h]
    decide +kernel
theorem RunA.dt {ps : List (Str × D)} (hs : ∀ p ∈ ps, PyData.strOk p.1 = true) (hk : ∀ p ∈ ps, p.2 ∈ kinds) : ∀ {ns : List Str} {r : List (Str × D)}, (∀ n ∈ ns, PyData.strOk n = true) → (∀ p ∈ r, PyData.strOk p.1 = true) → RunA ps ns r → ∀ p ∈ r, dtB 3 p.2 = true
  | _, [], _, _, _ => fun p hp => by cases hp
  | ns, q :: r, hn, hq, ⟨_, _, ⟨acts, h3, _, h5⟩, h6⟩ => fun p hp => by
    rcases List.mem_cons.mp hp with rfl | hp
    · rw [h3, dtB_tup, List.all_eq_true]
      exact fun a ha => act_dt hs hk hn (h5 a ha)
    · refine RunA.dt hs hk (ns := ns ++ [q.1]) (fun n h => ?_) (fun z hz => hq z (List.mem_cons_of_mem _ hz)) h6 p hp
      rcases List.mem_append.mp h with h | h
      · exact hn n h
      · rw [List.mem_singleton.mp h]; exact hq q List.mem_cons_self
theorem pgok {ps pl : List (Str × D)} (hb : BxOk ps) (hr : RunA ps [] pl) (hs : ∀ p ∈ pl, PyData.strOk p.1 = true) (nd : (pl.map (·.1)).Nodup) (sz : pl.length ≤ 6) : PgOk ps pl :=
  ⟨hb, nd, sz, (prs_dt (n := 2) hs (hr.dt (fun p hp => (hb.st p hp).1) hb.kd (by simp -dsimp) hs)).1⟩
theorem Boxy.ok {ps : List (Str × D)} (h : Boxy ps) : BxOk ps := by
  obtain ⟨m, m1, m2, m3⟩ := h.nm
  have sub : ∀ n ∈ ps.map (·.1), n ∈ nms := fun n hn => by rw [m3] at hn; exact List.mem_of_mem_take hn
  have len : ps.length = m := by
    have : (ps.map (·.1)).length = m := by rw [m3, List.length_take]; simp -dsimp [nms]; omega
    rwa [List.length_map] at this
  refine ⟨?_, by omega, by omega, fun p hp => ?_, h.kd⟩
  · rw [m3]; exact List.Nodup.sublist (List.take_sublist _ _) (by decide +kernel)
  · have hn := sub p.1 (List.mem_map.mpr ⟨p, hp, rfl⟩)
    have : p.1 ∈ (["s", "q", "copy", "more", "x", "p", "r", "main", "w"] : List Str) := by
      simp -dsimp only [nms, List.mem_cons, List.mem_nil_iff, or_false] at hn ⊢
      rcases hn with h | h | h <;> simp -dsimp [h]
    exact ⟨(letter_all this).2, (letter_all this).1⟩
theorem Boxy.sub {ps : List (Str × D)} (h : Boxy ps) {n : Str} (hn : n ∈ ps.map (·.1)) : n ∈ nms := by
  obtain ⟨m, m1, m2, m3⟩ := h.nm
  rw [m3] at hn; exact List.mem_of_mem_take hn
theorem Boxy.none {ps : List (Str × D)} (h : Boxy ps) : ("none" : Str) ∉ ps.map (·.1) := fun z => absurd (h.sub z) (by decide +kernel)
def moreP : Str × D := ("more", .tup [.str "heap"])
theorem Boxy.more {ps : List (Str × D)} (h : Boxy ps) : BxOk (ps ++ [moreP]) := by
  have b := h.ok
  obtain ⟨m, m1, m2, m3⟩ := h.nm
  have len : ps.length ≤ 3 := by
    have : (ps.map (·.1)).length ≤ 3 := by rw [m3, List.length_take]; simp -dsimp [nms]; omega
    rwa [List.length_map] at this
  refine ⟨?_, by simp -dsimp; omega, by simp, fun p hp => ?_, fun p hp => ?_⟩
  · rw [List.map_append, List.nodup_append]
    refine ⟨b.nd, by simp, fun x hx y hy => ?_⟩
    simp -dsimp only [List.map_cons, List.map_nil, List.mem_singleton, moreP] at hy
    subst hy
    intro z
    subst z
    exact absurd (h.sub hx) (by decide +kernel)
  · rcases List.mem_append.mp hp with hp | hp
    · exact b.st p hp
    · rw [List.mem_singleton.mp hp]
      exact ⟨(letter_all (n := "more") (by simp -dsimp)).2, (letter_all (n := "more") (by simp -dsimp)).1⟩
  · rcases List.mem_append.mp hp with hp | hp
    · exact b.kd p hp
    · rw [List.mem_singleton.mp hp]
      simp -dsimp only [moreP, kinds, List.mem_append, List.mem_map]
      exact .inl (.inl ⟨"heap", by simp -dsimp [simples], rfl⟩)
theorem BxOk.rev {ps : List (Str × D)} (b : BxOk ps) : BxOk ps.reverse := by
  refine ⟨by rw [List.map_reverse]; exact (List.reverse_perm _).nodup_iff.mpr b.nd, by rw [List.length_reverse]; exact b.sz, by rw [List.length_reverse]; exact b.s1, fun p hp => b.st p (List.mem_reverse.mp hp), fun p hp => b.kd p (List.mem_reverse.mp hp)⟩
theorem rev_eq {ps : List (Str × D)} (b : BxOk ps) : ps = ps.reverse ↔ ps.length = 1 := by
  have nd := b.nd
  have s1 := b.s1
  constructor
  · intro h
    match ps, nd, s1, h with
    | [p], _, _, _ => rfl
    | p :: q :: r, nd, _, h =>
      exfalso
      have e1 : (p :: q :: r).getLast? = (p :: q :: r).reverse.head? := by rw [List.head?_reverse]
      rw [← h] at e1
      have e2 : (p :: q :: r).getLast? = (q :: r).getLast? := by simp -dsimp [List.getLast?_cons_cons]
      rw [e2] at e1
      have m : p ∈ q :: r := List.mem_of_getLast? e1
      rw [List.map_cons, List.nodup_cons] at nd
      exact nd.1 (List.mem_map.mpr ⟨p, m, rfl⟩)
  · intro h
    match ps, h with
    | [p], _ => rfl
theorem Boxy.head {ps : List (Str × D)} (h : Boxy ps) : ∃ k pr, ps = (("s" : Str), k) :: pr := by
  obtain ⟨m, m1, m2, m3⟩ := h.nm
  obtain ⟨n, rfl⟩ : ∃ n, m = n + 1 := ⟨m - 1, by omega⟩
  cases ps with
  | nil => simp -dsimp [nms] at m3
  | cons p r =>
    obtain ⟨x, k⟩ := p
    simp -dsimp only [nms, List.map_cons, List.take_succ_cons, List.cons.injEq] at m3
    obtain ⟨rfl, _⟩ := m3
    exact ⟨k, r, rfl⟩
end K84

set_option maxRecDepth 100000
set_option maxHeartbeats 4000000
namespace K84
open PySem DL
/-- what the law's parts are -/
structure Full (ps pl : List (Str × D)) : Prop where
  nm : ∃ m, 1 ≤ m ∧ m ≤ 4 ∧ pl.map (·.1) = allN.drop (4 - m)
  ac : ∀ q ∈ pl, ∃ acts, q.2 = .tup acts ∧ acts.length ≤ 4
  pl : Pl ps pl
section
variable {ps pl : List (Str × D)}
theorem Full.sub (h : Full ps pl) {n : Str} (hn : n ∈ pl.map (·.1)) : n ∈ allN := by
  obtain ⟨m, m1, m2, m3⟩ := h.nm
  rw [m3] at hn; exact List.mem_of_mem_drop hn
theorem Full.lt (h : Full ps pl) {n : Str} (hn : n ∈ pl.map (·.1)) : LetterOk n ∧ PyData.strOk n = true := by
  have := h.sub hn
  refine letter_all ?_
  simp -dsimp only [allN, List.mem_cons, List.mem_nil_iff, or_false] at this ⊢
  rcases this with h | h | h | h <;> simp -dsimp [h]
theorem Full.ns (h : Full ps pl) : NsOk (pl.map (·.1)) :=
  ⟨fun z => absurd (h.sub z) (by decide +kernel), fun z => absurd (h.sub z) (by decide +kernel), fun n hn => (h.lt hn).2, fun n hn => (h.lt hn).1⟩
theorem Full.run (h : Full ps pl) : RunA ps [] pl := Pl.run h.pl h.ac (fun n hn => (h.lt hn).1) pl [] rfl
theorem Full.so (h : Full ps pl) : ∀ p ∈ pl, PyData.strOk p.1 = true := fun p hp => (h.lt (List.mem_map.mpr ⟨p, hp, rfl⟩)).2
theorem Full.len (h : Full ps pl) : 1 ≤ pl.length ∧ pl.length ≤ 4 := by
  obtain ⟨m, m1, m2, m3⟩ := h.nm
  have : (pl.map (·.1)).length = m := by rw [m3, List.length_drop]; simp -dsimp [allN]; omega
  rw [List.length_map] at this
  omega
theorem Full.last (h : Full ps pl) : ∃ (r : List (Str × D)) (d : D), pl = r ++ [(("main" : Str), d)] := by
  obtain ⟨m, m1, m2, m3⟩ := h.nm
  have ne : pl ≠ [] := by
    intro z
    have := h.len.1
    rw [z] at this
    simp -dsimp at this
  have e : pl = pl.dropLast ++ [pl.getLast ne] := (List.dropLast_concat_getLast ne).symm
  have l : (pl.map (·.1)).getLast? = some "main" := by
    rw [m3]
    have : m = 1 ∨ m = 2 ∨ m = 3 ∨ m = 4 := by omega
    rcases this with rfl | rfl | rfl | rfl <;> rfl
  rw [List.getLast?_map, List.getLast?_eq_some_getLast ne, Option.map_some] at l
  refine ⟨pl.dropLast, (pl.getLast ne).2, ?_⟩
  have l2 : (pl.getLast ne).1 = ("main" : Str) := Option.some.inj l
  rw [← l2]
  exact e
theorem Full.pgk (h : Full ps pl) (hb : BxOk ps) : PgOk ps pl := pgok hb h.run h.so h.pl.nd (by have := h.len; omega)
/-- the parts, the last one emptied -/
theorem Full.two (h : Full ps pl) (hb : BxOk ps) {r : List (Str × D)} {d : D} (e : pl = r ++ [(("main" : Str), d)]) : RunA ps [] (r ++ [(("main" : Str), .tup [])]) ∧ PgOk ps (r ++ [(("main" : Str), .tup [])]) ∧ (r ++ [(("main" : Str), D.tup [])]).length = pl.length := by
  have run := h.run
  rw [e] at run
  obtain ⟨h1, h2, h3, _, _⟩ := RunA.app.mp run
  have nm : (r ++ [(("main" : Str), D.tup [])]).map (·.1) = pl.map (·.1) := by rw [e]; simp -dsimp
  have run2 : RunA ps [] (r ++ [(("main" : Str), .tup [])]) := RunA.app.mpr ⟨h1, h2, h3, ⟨[], rfl, by simp, by simp -dsimp⟩, trivial⟩
  have ln : (r ++ [(("main" : Str), D.tup [])]).length = pl.length := by rw [e]; simp -dsimp
  refine ⟨run2, pgok hb run2 (fun p hp => ?_) (by rw [nm]; exact h.pl.nd) (by rw [ln]; have := h.len; omega), ln⟩
  have : p.1 ∈ pl.map (·.1) := by rw [← nm]; exact List.mem_map.mpr ⟨p, hp, rfl⟩
  exact (h.lt this).2
def xP : Str × D := ("x", .tup [])
theorem Full.x_new (h : Full ps pl) : ("x" : Str) ∉ pl.map (·.1) := fun z => absurd (h.sub z) (by decide +kernel)
theorem Full.three (h : Full ps pl) (hb : BxOk ps) : RunA ps [] (xP :: pl) ∧ PgOk ps (xP :: pl) := by
  have run : RunA ps [] (xP :: pl) := by
    refine ⟨by simp, (letter_all (n := "x") (by simp -dsimp)).1, ⟨[], rfl, by simp, by simp -dsimp⟩, ?_⟩
    exact RunA.mono (fun _ z => z) (by simp -dsimp) (fun n hn z => h.x_new (by simp -dsimp [xP] at z; rw [← z]; exact hn)) h.pl.nd h.run
  refine ⟨run, pgok hb run (fun p hp => ?_) ?_ (by rw [List.length_cons]; have := h.len; omega)⟩
  · rcases List.mem_cons.mp hp with rfl | hp
    · exact (letter_all (n := "x") (by simp -dsimp)).2
    · exact h.so p hp
  · rw [List.map_cons, List.nodup_cons]
    exact ⟨h.x_new, h.pl.nd⟩
theorem Full.wide (h : Full ps pl) {ps' : List (Str × D)} (hb : BxOk ps') (sub : ∀ p ∈ ps, p ∈ ps') : RunA ps' [] pl ∧ PgOk ps' pl := by
  have run : RunA ps' [] pl := RunA.mono sub (by simp -dsimp) (by simp -dsimp) h.pl.nd h.run
  exact ⟨run, pgok hb run h.so h.pl.nd (by have := h.len; omega)⟩
/-- the five answers -/
theorem Full.five (h : Full ps pl) (bo : Boxy ps) {r : List (Str × D)} {d : D} (e : pl = r ++ [(("main" : Str), d)]) : ∃ b2 b5 : Bool,
    EQ (pg ps pl) (pg ps pl) = some (.bl true) ∧ EQ (pg ps pl) (pg ps (r ++ [(("main" : Str), .tup [])])) = some (.bl b2) ∧ EQ (pg ps pl) (pg ps (xP :: pl)) = some (.bl false) ∧
      EQ (pg ps pl) (pg (ps ++ [moreP]) pl) = some (.bl false) ∧ EQ (pg ps pl) (pg ps.reverse pl) = some (.bl b5) ∧
      EQ (.tup [.str "main", d]) (.tup [.str "main", .tup []]) = some (.bl b2) ∧ EQ (.int ps.length) (.int 1) = some (.bl b5) := by
  have hb := bo.ok
  have P := h.pgk hb
  obtain ⟨c1, i1, e1⟩ := pg_EQ P P
  obtain ⟨b2, i2, e2⟩ := pg_EQ P (h.two hb e).2.1
  obtain ⟨c3, i3, e3⟩ := pg_EQ P (h.three hb).2
  obtain ⟨c4, i4, e4⟩ := pg_EQ P (h.wide bo.more (fun p hp => List.mem_append_left _ hp)).2
  obtain ⟨b5, i5, e5⟩ := pg_EQ P (h.wide hb.rev (fun p hp => List.mem_reverse.mpr hp)).2
  have k1 : c1 = true := i1.mpr ⟨rfl, rfl⟩
  have k3 : c3 = false := by
    cases c3 with
    | false => rfl
    | true => have := congrArg List.length (i3.mp rfl).2; simp -dsimp at this
  have k4 : c4 = false := by
    cases c4 with
    | false => rfl
    | true => have := congrArg List.length (i4.mp rfl).1; simp -dsimp at this
  subst k1 k3 k4
  have md : ∀ x ∈ pl, dtB 3 x.2 = true := P.it
  have dd : dtB 3 d = true := md (("main" : Str), d) (by rw [e]; simp -dsimp)
  have ms : PyData.strOk "main" = true := by decide +kernel
  have t1 : dtB 4 (.tup [.str "main", d]) = true := by
    show (PyData.strOk "main" && (dtB 3 d && true)) = true
    rw [ms, dd]; rfl
  have t2 : dtB 4 (.tup [.str "main", .tup []]) = true := by
    show (PyData.strOk "main" && (true && true)) = true
    rw [ms]; rfl
  have i2' : b2 = true ↔ d = .tup [] := by
    rw [i2, e]
    simp -dsimp
  have q2 : eqD (.tup [.str "main", d]) (.tup [.str "main", .tup []]) = some (.bl b2) := by
    by_cases z : d = .tup []
    · rw [i2'.mpr z]
      subst z
      exact eqD_same 4 (by omega) t1
    · have : b2 = false := by
        cases b2 with
        | false => rfl
        | true => exact absurd (i2'.mp rfl) z
      rw [this]
      exact eqD_not 4 (by omega) t1 t2 (by simpa using z)
  have q5 : eqD (.int ps.length) (.int 1) = some (.bl b5) := by
    rw [eqD_int]
    have : b5 = true ↔ ps.length = 1 := by rw [i5, ← rev_eq hb]; simp -dsimp
    by_cases z : ps.length = 1
    · rw [this.mpr z, z]; rfl
    · have hb5 : b5 = false := by
        cases b5 with
        | false => rfl
        | true => exact absurd (this.mp rfl) z
      rw [hb5]
      have : ¬ ((ps.length : Int) = 1) := by omega
      simp -dsimp [this]
  exact ⟨b2, b5, e1, e2, e3, e4, e5, EQ_of q2, EQ_of q5⟩
end
end K84

set_option maxRecDepth 100000
set_option maxHeartbeats 8000000
namespace K84
open PySem DL
theorem five_comp {P q1 q2 q3 q4 q5 : D} {b2 b5 : Bool} (c0 c1 c2 c3 c4 c5 c8 c9 c10 c11 c12 c14 c15 : Option DL.C) (h1 : EQ P q1 = some (.bl true)) (h2 : EQ P q2 = some (.bl b2)) (h3 : EQ P q3 = some (.bl false)) (h4 : EQ P q4 = some (.bl false)) (h5 : EQ P q5 = some (.bl b5)) :
    compM (gW 13) tYesM (mBin (orD (orD eqD (eqT cBoxes [cBoxes, cProgram] d_Boxes_eq)) (eqT cProgram [cBoxes, cProgram] d_Program_eq)) (mV (qVar 6)) (mV (qVar 13))) [13] (some 7) [q1, q2, q3, q4, q5] [q1, q2, q3, q4, q5] [c0, c1, c2, c3, c4, c5, some (.v P), some (.lst [q1, q2, q3, q4, q5]), c8, c9, c10, c11, c12, none, c14, c15] =
      .ok [.bl true, .bl b2, .bl false, .bl false, .bl b5] [c0, c1, c2, c3, c4, c5, some (.v P), some (.lst [q1, q2, q3, q4, q5]), c8, c9, c10, c11, c12, none, c14, c15] := by
  rw [c_cons_s rfl]
  simp -dsimp [h1, wipeE]
  rw [c_cons_s rfl]
  simp -dsimp [h2, wipeE]
  rw [c_cons_s rfl]
  simp -dsimp [h3, wipeE]
  rw [c_cons_s rfl]
  simp -dsimp [h4, wipeE]
  rw [c_cons_s rfl]
  simp -dsimp [h5, wipeE]
  rw [c_nil_s rfl]
theorem ne5 (b2 b5 : Bool) : NE (.lst [.bl true, .bl b2, .bl false, .bl false, .bl b5]) (.lst [.bl true, .bl b2, .bl false, .bl false, .bl b5]) = some (.bl false) := by
  refine NE_of ?_
  cases b2 <;> cases b5 <;> kernel_rfl
end K84

set_option maxRecDepth 100000
set_option maxHeartbeats 16000000
namespace K84
open PySem DL
theorem last_ix {r : List (Str × D)} {p : Str × D} : ixD (.tup ((r ++ [p]).map prD)) (.int (-1)) = some (prD p) := by
  have e : L2.ixN ((r ++ [p]).map prD).length (-1) = some r.length := by
    unfold L2.ixN
    simp -dsimp
    omega
  show L2.atI _ _ = _
  unfold L2.atI
  rw [e]
  simp -dsimp
theorem cut_init {α : Type} {r : List α} {p : α} : cutD (r ++ [p]) none (some (-1)) = r := by
  have e1 : HT.sIx (r ++ [p]).length (r ++ [p]).length (some (-1)) = r.length := by unfold HT.sIx; simp -dsimp; omega
  have e0 : HT.sIx (r ++ [p]).length 0 none = 0 := rfl
  unfold cutD
  rw [e1, e0]; simp -dsimp
theorem made_bx {ps : List (Str × D)} (b : BxOk ps) (ρ : DL.Env) : makeD d_Boxes_init cBoxes [.d (.tup (ps.map prD))] ρ = .ok (bxF ps) ρ := by
  obtain ⟨ρ1, e⟩ := boxes_init b.s1 b.sz b.nd fun p hp => ⟨(b.st p hp).2, is_kind (b.kd p hp)⟩
  rw [md1, e]; rfl
theorem made_pg {ps pl : List (Str × D)} (b : BxOk ps) {X : D} (hX : X = .tup (pl.map prD) ∨ X = .lst (pl.map prD)) (h0 : 1 ≤ pl.length) (h1 : pl.length ≤ 6) (hr : RunA ps [] pl) (ρ : DL.Env) : makeD d_Program_init cProgram [.d (bx ps), .d X] ρ = .ok (pgF ps pl) ρ := by
  obtain ⟨ρ1, e⟩ := program_init b.nd b.kd hX h0 h1 hr
  rw [md2, e]; rfl
theorem bxF_frz (ps : List (Str × D)) : (bxF ps).frz = bx ps := rfl
theorem pgF_frz (ps pl : List (Str × D)) : (pgF ps pl).frz = pg ps pl := rfl
def k_e_rev1 (d : D) : D → DL.Env → R D := fun i ρ2 => opt (revD d i) ρ2
@[simp] theorem k_e_rev1_eq {d : D} {i : D} {ρ2 : DL.Env} : k_e_rev1 d i ρ2 = opt (revD d i) ρ2 := rfl
def k_e_rev2 (mk : ME) : D → DL.Env → R D := fun d ρ1 => (mk ρ1).bind (k_e_rev1 d)
@[simp] theorem k_e_rev2_eq {mk : ME} {d : D} {ρ1 : DL.Env} : k_e_rev2 mk d ρ1 = (mk ρ1).bind (k_e_rev1 d) := rfl
@[simp] theorem e_rev {ma mk : ME} {ρ : DL.Env} : mRev ma mk ρ = (ma ρ).bind (k_e_rev2 mk) := rfl
theorem seq1 {m1 m2 : MS} {ρ ρ1 ρ2 : DL.Env} {f : Fl} (h : m1 ρ = .ok .nx ρ1) (h2 : m2 ρ1 = .ok f ρ2) : mSeq m1 m2 ρ = .ok f ρ2 := by
  rw [e_seq, h]
  exact h2
theorem round {ns : List Int} {k : Int} (k0 : 0 ≤ k) (k2 : k ≤ 2) (c1 c2 c3 c4 c5 c6 c7 c8 c9 c10 : Option DL.C) : ∃ c2' c3' c4' c5' c6' c7' c8' c9' c10',
    (mSeq (mSetO 1 2 (mCall 2 d__law_pool (aCons (aSlot 0) (aCons (aSlot 1) aNil)))) (mSeq (mSetO 1 3 (mCall 2 d__law_pairs (aCons (aSlot 2) (aCons (aVal (mV (qC (.int (3))))) aNil)))) (mSeq (mPar 1 4 5 (mCons (mFrz (mMake cBoxes 2 d_Boxes_init (aCons (aSlot 3) aNil))) (mCons (mFrz (mCall 3 d__law_parts (aCons (aSlot 2) (aCons (aSlot 3) (aCons (aVal (mV (qC (.int (4))))) aNil))))) mNil))) (mSeq (mSet 1 6 (mFrz (mMake cProgram 3 d_Program_init (aCons (aSlot 4) (aCons (aVal (mFrz (mCall 2 d__law_one (aCons (aSlot 2) (aCons (aVal (mLst (mCons (mV (qVar 5)) (mCons (mC1 listD (mR (qVar 5))) mNil)))) aNil))))) aNil))))) (mSeq (mIfS (mOr (mB (mBin (orD (orD neD (neT cBoxes [cBoxes, cProgram] d_Boxes_eq)) (neT cProgram [cBoxes, cProgram] d_Program_eq)) (mFrz (mMeth cProgram "parts" 1 d_Program_parts (aSlot 6) aNil)) (mV (qVar 5)))) (mOr (mB (mBin (orD (orD neD (neT cBoxes [cBoxes, cProgram] d_Boxes_eq)) (neT cProgram [cBoxes, cProgram] d_Program_eq)) (mFrz (mMeth cProgram "boxes" 1 d_Program_boxes (aSlot 6) aNil)) (mV (qVar 4)))) (mB (mBin (orD (orD neD (neT cBoxes [cBoxes, cProgram] d_Boxes_eq)) (neT cProgram [cBoxes, cProgram] d_Program_eq)) (mFrz (mMeth cProgram "names" 1 d_Program_names (aSlot 6) aNil)) (mFrz (mComp (iSeq (mV (qVar 5))) none (gT 2 (gNs (gW 11) (gNs (gW 12) gNs0))) tYesM (mV (qVar 11)) [11, 12])))))) (mRet (mOwn (mV (qC (.bl false))))) mSkip) (mSeq (mIfS (mB (mBin (orD (orD neD (neT cBoxes [cBoxes, cProgram] d_Boxes_eq)) (neT cProgram [cBoxes, cProgram] d_Program_eq)) (mFrz (mComp (iSeq (mV (qVar 5))) none (gT 2 (gNs (gW 11) (gNs (gW 12) gNs0))) (mB (mBin (orD (orD neD (neT cBoxes [cBoxes, cProgram] d_Boxes_eq)) (neT cProgram [cBoxes, cProgram] d_Program_eq)) (mFrz (mMeth cProgram "acts_of" 2 d_Program_acts_of (aSlot 6) (aCons (aSlot 11) aNil))) (mV (qVar 12)))) (mV (qVar 11)) [11, 12])) (mLst mNil))) (mRet (mOwn (mV (qC (.bl false))))) mSkip) (mSeq (mSetO 1 7 (mLstO (mCons (mFrz (mMake cProgram 3 d_Program_init (aCons (aSlot 4) (aCons (aSlot 5) aNil)))) (mCons (mFrz (mMake cProgram 3 d_Program_init (aCons (aSlot 4) (aCons (aVal (mBin addD (mSlH (mV (qVar 5)) (mNeg (mV (qC (.int (1)))))) (mTup (mCons (mTup (mCons (mV (qC (.str "main"))) (mCons (mTup mNil) mNil))) mNil)))) aNil)))) mNil)))) (mSeq (mApp0 7 (mFrz (mMake cProgram 3 d_Program_init (aCons (aSlot 4) (aCons (aVal (mBin addD (mTup (mCons (mTup (mCons (mV (qC (.str "x"))) (mCons (mTup mNil) mNil))) mNil)) (mV (qVar 5)))) aNil))))) (mSeq (mApp0 7 (mFrz (mMake cProgram 3 d_Program_init (aCons (aVal (mFrz (mMake cBoxes 2 d_Boxes_init (aCons (aVal (mBin addD (mV (qVar 3)) (mTup (mCons (mTup (mCons (mV (qC (.str "more"))) (mCons (mTup (mCons (mV (qC (.str "heap"))) mNil)) mNil))) mNil)))) aNil)))) (aCons (aSlot 5) aNil))))) (mSeq (mApp0 7 (mFrz (mMake cProgram 3 d_Program_init (aCons (aVal (mFrz (mMake cBoxes 2 d_Boxes_init (aCons (aVal (mRev (mV (qVar 3)) (mNeg (mV (qC (.int (1))))))) aNil)))) (aCons (aSlot 5) aNil))))) (mSeq (mSet 1 8 (mLst (mCons (mV (qC (.bl true))) (mCons (mBin (orD (orD eqD (eqT cBoxes [cBoxes, cProgram] d_Boxes_eq)) (eqT cProgram [cBoxes, cProgram] d_Program_eq)) (mIx (mV (qVar 5)) (mNeg (mV (qC (.int (1)))))) (mTup (mCons (mV (qC (.str "main"))) (mCons (mTup mNil) mNil)))) (mCons (mV (qC (.bl false))) (mCons (mV (qC (.bl false))) (mCons (mBin (orD (orD eqD (eqT cBoxes [cBoxes, cProgram] d_Boxes_eq)) (eqT cProgram [cBoxes, cProgram] d_Program_eq)) (mC1 lenD (mR (qVar 3))) (mV (qC (.int (1))))) mNil))))))) (mSeq (mIfS (mOr (mB (mBin (orD (orD neD (neT cBoxes [cBoxes, cProgram] d_Boxes_eq)) (neT cProgram [cBoxes, cProgram] d_Program_eq)) (mFrz (mComp (iSlot 7) (some 7) (gW 13) tYesM (mBin (orD (orD eqD (eqT cBoxes [cBoxes, cProgram] d_Boxes_eq)) (eqT cProgram [cBoxes, cProgram] d_Program_eq)) (mV (qVar 6)) (mV (qVar 13))) [13])) (mV (qVar 8)))) (mB (mBin (orD (orD eqD (eqT cBoxes [cBoxes, cProgram] d_Boxes_eq)) (eqT cProgram [cBoxes, cProgram] d_Program_eq)) (mV (qVar 6)) (mV (qVar 5))))) (mRet (mOwn (mV (qC (.bl false))))) mSkip) (mSeq (mSet 1 9 (mC1 tupleD (mFrz (mComp (iSeq (mV (qVar 3))) none (gT 2 (gNs (gW 11) (gNs (gW 14) gNs0))) tYesM (mTup (mCons (mV (qVar 11)) (mCons (mFrz (mCall 3 d__law_step (aCons (aSlot 2) (aCons (aSlot 14) (aCons (aVal (mLst (mCons (mV (qC (.str "a"))) mNil))) aNil))))) mNil))) [11, 14])))) (mSeq (mSet 1 10 (mFrz (mCall 2 d_Program_from_row (aCons (aSlot 4) (aCons (aSlot 9) aNil))))) (mSeq (mIfS (mOr (mB (mBin (orD (orD neD (neT cBoxes [cBoxes, cProgram] d_Boxes_eq)) (neT cProgram [cBoxes, cProgram] d_Program_eq)) (mFrz (mMeth cProgram "parts" 1 d_Program_parts (aSlot 10) aNil)) (mTup (mCons (mTup (mCons (mV (qC (.str "main"))) (mCons (mC1 tupleD (mFrz (mComp (iSeq (mV (qVar 9))) none (gW 15) tYesM (mBin addD (mTup (mCons (mV (qC (.str "do"))) mNil)) (mV (qVar 15))) [15]))) mNil))) mNil)))) (mB (mBin (orD (orD neD (neT cBoxes [cBoxes, cProgram] d_Boxes_eq)) (neT cProgram [cBoxes, cProgram] d_Program_eq)) (mFrz (mMeth cProgram "names" 1 d_Program_names (aSlot 10) aNil)) (mLst (mCons (mV (qC (.str "main"))) mNil))))) (mRet (mOwn (mV (qC (.bl false))))) mSkip) (mIfS (mNot (mB (mFrz (mCall 5 d__law_refused (aCons (aSlot 2) (aCons (aSlot 6) (aCons (aSlot 4) (aCons (aSlot 3) (aCons (aSlot 5) aNil))))))))) (mRet (mOwn (mV (qC (.bl false))))) mSkip)))))))))))))))) [some (.v (.lst (ns.map .int))), some (.v (.int k)), c2, c3, c4, c5, c6, c7, c8, c9, c10, none, none, none, none, none] =
      .ok .nx [some (.v (.lst (ns.map .int))), some (.v (.int k)), c2', c3', c4', c5', c6', c7', c8', c9', c10', none, none, none, none, none] := by
  obtain ⟨a0, b0, h0, e0⟩ := pool ns k k0 k2
  obtain ⟨ps, bo, a1, b1, h1, e1⟩ := pairs a0 b0 h0
  obtain ⟨pl, nm, ac, P, a2, b2, h2, e2⟩ := parts h1 bo
  have F : Full ps pl := ⟨nm, ac, P⟩
  have hb := bo.ok
  have ln := F.len
  obtain ⟨r, d, er⟩ := F.last
  obtain ⟨X, hX, a3, b3, h3, e3⟩ := one_l a2 b2 h2 [.tup (pl.map prD), .lst (pl.map prD)] (by simp -dsimp) (by simp -dsimp)
  have hX' : X = .tup (pl.map prD) ∨ X = .lst (pl.map prD) := by simpa using hX
  obtain ⟨v2, v5, f1, f2, f3, f4, f5, f6, f7⟩ := F.five bo er
  obtain ⟨tw1, tw2, tw3⟩ := F.two hb er
  obtain ⟨th1, th2⟩ := F.three hb
  obtain ⟨w1, _⟩ := F.wide bo.more fun p hp => List.mem_append_left _ hp
  obtain ⟨w2, _⟩ := F.wide hb.rev fun p hp => List.mem_reverse.mpr hp
  have mb := made_bx hb
  have mb2 := made_bx bo.more
  have mb3 := made_bx hb.rev
  have mp := made_pg hb hX' ln.1 (by omega) F.run
  have mp1 := made_pg hb (.inl rfl) ln.1 (by omega) F.run
  have mp2 := made_pg hb (.inl rfl) (by rw [tw3]; omega) (by rw [tw3]; omega) tw1
  have mp3 := made_pg hb (.inl rfl) (by simp -dsimp) (by rw [List.length_cons]; omega) th1
  have mp4 := made_pg bo.more (.inl rfl) ln.1 (by omega) w1
  have mp5 := made_pg hb.rev (.inl rfl) ln.1 (by omega) w2
  obtain ⟨kk, pr, hp⟩ := bo.head
  obtain ⟨rs, z1, z2, a4, b4, h4, e4⟩ := draw_row hb.kd (some (.v (.lst (ns.map .int)))) (some (.v (.int k))) (some (.v (.tup (ps.map prD)))) (some (.v (bx ps))) (some (.v (.tup (pl.map prD)))) (some (.v (pg ps pl))) (some (.lst [pg ps pl, pg ps (r ++ [(("main" : Str), .tup [])]), pg ps (xP :: pl), pg (ps ++ [moreP]) pl, pg ps.reverse pl])) (some (.v (.lst [.bl true, .bl v2, .bl false, .bl false, .bl v5]))) c9 c10 none none none (ps.map prD) ps (fun _ z => z) a3 b3 h3
  have row : Row ps rs := ⟨z1, z2⟩
  obtain ⟨ρr, e5⟩ := from_row hb row
  obtain ⟨a6, b6, h6, e6⟩ := refused h4 hb bo.none hp F.run ln.2 F.ns
  have Pg := F.pgk hb
  have g1 := parts_D (ps := ps) Pg.nd Pg.sz
  have g2 : NE (.tup (pl.map prD)) (.tup (pl.map prD)) = some (.bl false) := NE_of (neD_same 5 (by omega) Pg.dt)
  have g3 := boxes_D ps pl
  have g3' := bx_NE hb
  have g4 := names_D (ps := ps) (pl := pl) (by omega)
  have g4' : NE (.lst ((pl.map (·.1)).map .str)) (.lst ((pl.map (·.1)).map .str)) = some (.bl false) := NE_of (neD_same 1 (by omega) (dt_strs F.ns.st))
  have g4'' := names_law (some (.v (.lst (ns.map .int)))) (some (.v (.int k))) (some (src a3 b3)) (some (.v (.tup (ps.map prD)))) (some (.v (bx ps))) (some (.v (.tup (pl.map prD)))) (some (.v (pg ps pl))) c7 c8 c9 c10 none none none (pl.map prD) pl
  have g5 := acts_law Pg (some (.v (.lst (ns.map .int)))) (some (.v (.int k))) (some (src a3 b3)) (some (.v (.tup (ps.map prD)))) (some (.v (bx ps))) (some (.v (.tup (pl.map prD)))) c7 c8 c9 c10 none none none (pl.map prD) pl (fun _ z => z)
  have g5' : NE (.lst []) (.lst []) = some (.bl false) := NE_of (by kernel_rfl)
  have sl : slD (.tup (pl.map prD)) none (some (-1)) = some (.tup (r.map prD)) := by
    rw [er, List.map_append]
    show some (D.tup (cutD (r.map prD ++ [prD _]) none (some (-1)))) = _
    rw [cut_init]
  have ad2 : addD (.tup (r.map prD)) (.tup [.tup [.str "main", .tup []]]) = some (.tup ((r ++ [(("main" : Str), D.tup [])]).map prD)) := by
    have : (r.map prD).length + 1 ≤ 16777216 := by
      have := ln.2
      rw [er] at this
      simp -dsimp at this ⊢
      omega
    rw [List.map_append]
    simp -dsimp only [addD, sz_eq, List.length_cons, List.length_nil, Nat.zero_add, if_pos this]
    rfl
  have ad3 : addD (.tup [.tup [.str "x", .tup []]]) (.tup (pl.map prD)) = some (.tup ((xP :: pl).map prD)) := by
    have : 1 + (pl.map prD).length ≤ 16777216 := by rw [List.length_map]; omega
    simp -dsimp only [addD, sz_eq, List.length_cons, List.length_nil, Nat.zero_add, if_pos this]
    rfl
  have ad4 : addD (.tup (ps.map prD)) (.tup [.tup [.str "more", .tup [.str "heap"]]]) = some (.tup ((ps ++ [moreP]).map prD)) := by
    have : (ps.map prD).length + 1 ≤ 16777216 := by rw [List.length_map]; have := hb.sz; omega
    rw [List.map_append]
    simp -dsimp only [addD, sz_eq, List.length_cons, List.length_nil, Nat.zero_add, if_pos this]
    rfl
  have rv : revD (.tup (ps.map prD)) (.int (-1)) = some (.tup (ps.reverse.map prD)) := by rw [List.map_reverse]; rfl
  have ix : ixD (.tup (pl.map prD)) (.int (-1)) = some (.tup [.str "main", d]) := by rw [er]; exact last_ix
  have ld : lenD (.tup (ps.map prD)) = some (.int ps.length) := by rw [lenD, List.length_map]
  have lq : listD (.tup (pl.map prD)) = some (.lst (pl.map prD)) := rfl
  have tt : ∀ l : List D, tupleD (.lst l) = some (.tup l) := fun _ => rfl
  have pe := pg_EQ_tup ps pl (pl.map prD)
  have n5 := ne5 v2 v5
  have rok := row.run hb
  have so1 : ∀ p ∈ rowPl rs, PyData.strOk p.1 = true := by
    intro p hp
    simp -dsimp only [rowPl, List.mem_singleton] at hp
    subst hp
    show PyData.strOk "main" = true
    decide +kernel
  have Rg := pgok hb rok so1 (by simp -dsimp [rowPl]) (by simp -dsimp [rowPl])
  have x1 := parts_D (ps := ps) Rg.nd Rg.sz
  have x2 : NE (.tup ((rowPl rs).map prD)) (.tup ((rowPl rs).map prD)) = some (.bl false) := NE_of (neD_same 5 (by omega) Rg.dt)
  have x3 := names_D (ps := ps) (pl := rowPl rs) (by simp -dsimp [rowPl])
  have x4 : NE (.lst [.str "main"]) (.lst [.str "main"]) = some (.bl false) := NE_of (by kernel_rfl)
  have lp : (pl.map prD).length ≤ 1000000 := by rw [List.length_map]; omega
  have lps : (ps.map prD).length ≤ 1000000 := by rw [List.length_map]; have := hb.sz; omega
  have lrs : (rs.map prD).length ≤ 1000000 := by rw [List.length_map, z1]; have := hb.sz; omega
  have fc := five_comp (some (.v (.lst (ns.map .int)))) (some (.v (.int k))) (some (src a3 b3)) (some (.v (.tup (ps.map prD)))) (some (.v (bx ps))) (some (.v (.tup (pl.map prD)))) (some (.v (.lst [.bl true, .bl v2, .bl false, .bl false, .bl v5]))) c9 c10 none none none none f1 f2 f3 f4 f5
  have rl := row_law (some (.v (.lst (ns.map .int)))) (some (.v (.int k))) (some (src a4 b4)) (some (.v (.tup (ps.map prD)))) (some (.v (bx ps))) (some (.v (.tup (pl.map prD)))) (some (.v (pg ps pl))) (some (.lst [pg ps pl, pg ps (r ++ [(("main" : Str), .tup [])]), pg ps (xP :: pl), pg (ps ++ [moreP]) pl, pg ps.reverse pl])) (some (.v (.lst [.bl true, .bl v2, .bl false, .bl false, .bl v5]))) (some (.v (.tup (rs.map prD)))) (some (pgF ps (rowPl rs))) none none none none (rs.map prD) rs
  have rl' := row_law (some (.v (.lst (ns.map .int)))) (some (.v (.int k))) (some (src a4 b4)) (some (.v (.tup (ps.map prD)))) (some (.v (bx ps))) (some (.v (.tup (pl.map prD)))) (some (.v (pg ps pl))) (some (.lst [pg ps pl, pg ps (r ++ [(("main" : Str), .tup [])]), pg ps (xP :: pl), pg (ps ++ [moreP]) pl, pg ps.reverse pl])) (some (.v (.lst [.bl true, .bl v2, .bl false, .bl false, .bl v5]))) (some (.v (.tup (rs.map prD)))) (some (.v (pg ps (rowPl rs)))) none none none none (rs.map prD) rs
  have rcP : ∀ ρ, recvOk cProgram "parts" (.d (pg ps pl)) ρ = true := fun ρ => by kernel_rfl
  have rcN : ∀ ρ, recvOk cProgram "names" (.d (pg ps pl)) ρ = true := fun ρ => by kernel_rfl
  have rcB : ∀ ρ, recvOk cProgram "boxes" (.d (pg ps pl)) ρ = true := fun ρ => by kernel_rfl
  have rcP2 : ∀ ρ, recvOk cProgram "parts" (.d (pg ps (rowPl rs))) ρ = true := fun ρ => by kernel_rfl
  have rcN2 : ∀ ρ, recvOk cProgram "names" (.d (pg ps (rowPl rs))) ρ = true := fun ρ => by kernel_rfl
  have x5 : (rowPl rs).map prD = [.tup [.str "main", .tup (rs.map doA)]] := rfl
  have x6 : ((rowPl rs).map (·.1)).map D.str = [.str "main"] := rfl
  rw [x5] at x1 x2
  rw [x6] at x3
  generalize rs.map doA = DA at *
  simp -dsimp only [bxF_frz, pgF_frz, src] at *
  refine ⟨some (src a6 b6), some (.v (.tup (ps.map prD))), some (.v (bx ps)), some (.v (.tup (pl.map prD))), some (.v (pg ps pl)), some (.lst [pg ps pl, pg ps (r ++ [(("main" : Str), .tup [])]), pg ps (xP :: pl), pg (ps ++ [moreP]) pl, pg ps.reverse pl]), some (.v (.lst [.bl true, .bl v2, .bl false, .bl false, .bl v5])), some (.v (.tup (rs.map prD))), some (.v (pg ps (rowPl rs))), ?_⟩
  have pd : ps.map pairD = ps.map prD := rfl
  rw [pd] at e1
  simp -dsimp only [src]
  generalize (r ++ [(("main" : Str), D.tup [])]).map prD = T2 at *
  generalize (xP :: pl).map prD = T3 at *
  generalize (ps ++ [moreP]).map prD = T4 at *
  generalize ps.reverse.map prD = T5 at *
  generalize rs.map prD = RS at *
  generalize ps.map prD = PS at *
  generalize pl.map prD = QS at *
  generalize (pl.map (·.1)).map D.str = NN at *
  refine seq1 (ρ1 := [some (.v (.lst (ns.map .int))), some (.v (.int k)), some (.lst [.int a0, .int b0]), c3, c4, c5, c6, c7, c8, c9, c10, none, none, none, none, none]) (by as_aux_lemma => simp -dsimp [e0]) ?_
  refine seq1 (ρ1 := [some (.v (.lst (ns.map .int))), some (.v (.int k)), some (.lst [.int a1, .int b1]), some (.v (.tup PS)), c4, c5, c6, c7, c8, c9, c10, none, none, none, none, none]) (by as_aux_lemma => simp -dsimp [e1]) ?_
  refine seq1 (ρ1 := [some (.v (.lst (ns.map .int))), some (.v (.int k)), some (.lst [.int a2, .int b2]), some (.v (.tup PS)), some (.v (bx ps)), some (.v (.tup QS)), c6, c7, c8, c9, c10, none, none, none, none, none]) (by as_aux_lemma => simp -dsimp [mb, bxF_frz, e2, lps]) ?_
  refine seq1 (ρ1 := [some (.v (.lst (ns.map .int))), some (.v (.int k)), some (.lst [.int a3, .int b3]), some (.v (.tup PS)), some (.v (bx ps)), some (.v (.tup QS)), some (.v (pg ps pl)), c7, c8, c9, c10, none, none, none, none, none]) (by as_aux_lemma => simp -dsimp [e3, lq, mp, pgF_frz]) ?_
  refine seq1 (ρ1 := [some (.v (.lst (ns.map .int))), some (.v (.int k)), some (.lst [.int a3, .int b3]), some (.v (.tup PS)), some (.v (bx ps)), some (.v (.tup QS)), some (.v (pg ps pl)), c7, c8, c9, c10, none, none, none, none, none]) (by as_aux_lemma => simp -dsimp [rcP, g1, g2, rcB, g3, g3', rcN, g4, g4', g4'', wipeE, joinE, lp, iSlot]) ?_
  refine seq1 (ρ1 := [some (.v (.lst (ns.map .int))), some (.v (.int k)), some (.lst [.int a3, .int b3]), some (.v (.tup PS)), some (.v (bx ps)), some (.v (.tup QS)), some (.v (pg ps pl)), c7, c8, c9, c10, none, none, none, none, none]) (by as_aux_lemma => simp -dsimp [g5, g5', wipeE, joinE, lp, iSlot]) ?_
  refine seq1 (ρ1 := [some (.v (.lst (ns.map .int))), some (.v (.int k)), some (.lst [.int a3, .int b3]), some (.v (.tup PS)), some (.v (bx ps)), some (.v (.tup QS)), some (.v (pg ps pl)), some (.lst [pg ps pl, pg ps (r ++ [(("main" : Str), .tup [])])]), c8, c9, c10, none, none, none, none, none]) (by as_aux_lemma => simp -dsimp [mp1, pgF_frz, sl, ad2, mp2]) ?_
  refine seq1 (ρ1 := [some (.v (.lst (ns.map .int))), some (.v (.int k)), some (.lst [.int a3, .int b3]), some (.v (.tup PS)), some (.v (bx ps)), some (.v (.tup QS)), some (.v (pg ps pl)), some (.lst [pg ps pl, pg ps (r ++ [(("main" : Str), .tup [])]), pg ps (xP :: pl)]), c8, c9, c10, none, none, none, none, none]) (by as_aux_lemma => simp -dsimp [ad3, mp3, pgF_frz]) ?_
  refine seq1 (ρ1 := [some (.v (.lst (ns.map .int))), some (.v (.int k)), some (.lst [.int a3, .int b3]), some (.v (.tup PS)), some (.v (bx ps)), some (.v (.tup QS)), some (.v (pg ps pl)), some (.lst [pg ps pl, pg ps (r ++ [(("main" : Str), .tup [])]), pg ps (xP :: pl), pg (ps ++ [moreP]) pl]), c8, c9, c10, none, none, none, none, none]) (by as_aux_lemma => simp -dsimp [ad4, mb2, bxF_frz, mp4, pgF_frz]) ?_
  refine seq1 (ρ1 := [some (.v (.lst (ns.map .int))), some (.v (.int k)), some (.lst [.int a3, .int b3]), some (.v (.tup PS)), some (.v (bx ps)), some (.v (.tup QS)), some (.v (pg ps pl)), some (.lst [pg ps pl, pg ps (r ++ [(("main" : Str), .tup [])]), pg ps (xP :: pl), pg (ps ++ [moreP]) pl, pg ps.reverse pl]), c8, c9, c10, none, none, none, none, none]) (by as_aux_lemma => simp -dsimp [rv, mb3, bxF_frz, mp5, pgF_frz]) ?_
  refine seq1 (ρ1 := [some (.v (.lst (ns.map .int))), some (.v (.int k)), some (.lst [.int a3, .int b3]), some (.v (.tup PS)), some (.v (bx ps)), some (.v (.tup QS)), some (.v (pg ps pl)), some (.lst [pg ps pl, pg ps (r ++ [(("main" : Str), .tup [])]), pg ps (xP :: pl), pg (ps ++ [moreP]) pl, pg ps.reverse pl]), some (.v (.lst [.bl true, .bl v2, .bl false, .bl false, .bl v5])), c9, c10, none, none, none, none, none]) (by as_aux_lemma => simp -dsimp [ix, f6, ld, f7]) ?_
  refine seq1 (ρ1 := [some (.v (.lst (ns.map .int))), some (.v (.int k)), some (.lst [.int a3, .int b3]), some (.v (.tup PS)), some (.v (bx ps)), some (.v (.tup QS)), some (.v (pg ps pl)), some (.lst [pg ps pl, pg ps (r ++ [(("main" : Str), .tup [])]), pg ps (xP :: pl), pg (ps ++ [moreP]) pl, pg ps.reverse pl]), some (.v (.lst [.bl true, .bl v2, .bl false, .bl false, .bl v5])), c9, c10, none, none, none, none, none]) (by as_aux_lemma => simp -dsimp [fc, n5, pe, iSlot, wipeE, joinE]) ?_
  refine seq1 (ρ1 := [some (.v (.lst (ns.map .int))), some (.v (.int k)), some (.lst [.int a4, .int b4]), some (.v (.tup PS)), some (.v (bx ps)), some (.v (.tup QS)), some (.v (pg ps pl)), some (.lst [pg ps pl, pg ps (r ++ [(("main" : Str), .tup [])]), pg ps (xP :: pl), pg (ps ++ [moreP]) pl, pg ps.reverse pl]), some (.v (.lst [.bl true, .bl v2, .bl false, .bl false, .bl v5])), some (.v (.tup RS)), c10, none, none, none, none, none]) (by as_aux_lemma => simp -dsimp [e4, tt, lps, iSlot, wipeE, joinE]) ?_
  refine seq1 (ρ1 := [some (.v (.lst (ns.map .int))), some (.v (.int k)), some (.lst [.int a4, .int b4]), some (.v (.tup PS)), some (.v (bx ps)), some (.v (.tup QS)), some (.v (pg ps pl)), some (.lst [pg ps pl, pg ps (r ++ [(("main" : Str), .tup [])]), pg ps (xP :: pl), pg (ps ++ [moreP]) pl, pg ps.reverse pl]), some (.v (.lst [.bl true, .bl v2, .bl false, .bl false, .bl v5])), some (.v (.tup RS)), some (.v (pg ps (rowPl rs))), none, none, none, none, none]) (by as_aux_lemma => simp -dsimp [e5, lrs, pgF_frz]) ?_
  refine seq1 (ρ1 := [some (.v (.lst (ns.map .int))), some (.v (.int k)), some (.lst [.int a4, .int b4]), some (.v (.tup PS)), some (.v (bx ps)), some (.v (.tup QS)), some (.v (pg ps pl)), some (.lst [pg ps pl, pg ps (r ++ [(("main" : Str), .tup [])]), pg ps (xP :: pl), pg (ps ++ [moreP]) pl, pg ps.reverse pl]), some (.v (.lst [.bl true, .bl v2, .bl false, .bl false, .bl v5])), some (.v (.tup RS)), some (.v (pg ps (rowPl rs))), none, none, none, none, none]) (by as_aux_lemma => simp -dsimp [rl', x1, x2, x3, x4, rcP2, rcN2, lrs, tt, iSlot, wipeE, joinE]) ?_
  as_aux_lemma => simp -dsimp [e6]
end K84

set_option maxRecDepth 100000
set_option maxHeartbeats 4000000
namespace K84
open PySem DL
theorem rng_succ {lo : Int} {m : Nat} : rngD lo (m + 1) = .int lo :: rngD (lo + 1) m := by
  unfold rngD
  rw [List.range_succ_eq_map, List.map_cons, List.map_map]
  congr 1
  · simp -dsimp
  · refine List.map_congr_left fun i _ => ?_
    simp -dsimp
    omega
theorem law_loop {ns : List Int} : ∀ (m n : Nat) (_ : n + m ≤ 3) (c1 c2 c3 c4 c5 c6 c7 c8 c9 c10 : Option DL.C), ∃ c1' c2' c3' c4' c5' c6' c7' c8' c9' c10',
    forM (gN 1 1) (mSeq (mSetO 1 2 (mCall 2 d__law_pool (aCons (aSlot 0) (aCons (aSlot 1) aNil)))) (mSeq (mSetO 1 3 (mCall 2 d__law_pairs (aCons (aSlot 2) (aCons (aVal (mV (qC (.int (3))))) aNil)))) (mSeq (mPar 1 4 5 (mCons (mFrz (mMake cBoxes 2 d_Boxes_init (aCons (aSlot 3) aNil))) (mCons (mFrz (mCall 3 d__law_parts (aCons (aSlot 2) (aCons (aSlot 3) (aCons (aVal (mV (qC (.int (4))))) aNil))))) mNil))) (mSeq (mSet 1 6 (mFrz (mMake cProgram 3 d_Program_init (aCons (aSlot 4) (aCons (aVal (mFrz (mCall 2 d__law_one (aCons (aSlot 2) (aCons (aVal (mLst (mCons (mV (qVar 5)) (mCons (mC1 listD (mR (qVar 5))) mNil)))) aNil))))) aNil))))) (mSeq (mIfS (mOr (mB (mBin (orD (orD neD (neT cBoxes [cBoxes, cProgram] d_Boxes_eq)) (neT cProgram [cBoxes, cProgram] d_Program_eq)) (mFrz (mMeth cProgram "parts" 1 d_Program_parts (aSlot 6) aNil)) (mV (qVar 5)))) (mOr (mB (mBin (orD (orD neD (neT cBoxes [cBoxes, cProgram] d_Boxes_eq)) (neT cProgram [cBoxes, cProgram] d_Program_eq)) (mFrz (mMeth cProgram "boxes" 1 d_Program_boxes (aSlot 6) aNil)) (mV (qVar 4)))) (mB (mBin (orD (orD neD (neT cBoxes [cBoxes, cProgram] d_Boxes_eq)) (neT cProgram [cBoxes, cProgram] d_Program_eq)) (mFrz (mMeth cProgram "names" 1 d_Program_names (aSlot 6) aNil)) (mFrz (mComp (iSeq (mV (qVar 5))) none (gT 2 (gNs (gW 11) (gNs (gW 12) gNs0))) tYesM (mV (qVar 11)) [11, 12])))))) (mRet (mOwn (mV (qC (.bl false))))) mSkip) (mSeq (mIfS (mB (mBin (orD (orD neD (neT cBoxes [cBoxes, cProgram] d_Boxes_eq)) (neT cProgram [cBoxes, cProgram] d_Program_eq)) (mFrz (mComp (iSeq (mV (qVar 5))) none (gT 2 (gNs (gW 11) (gNs (gW 12) gNs0))) (mB (mBin (orD (orD neD (neT cBoxes [cBoxes, cProgram] d_Boxes_eq)) (neT cProgram [cBoxes, cProgram] d_Program_eq)) (mFrz (mMeth cProgram "acts_of" 2 d_Program_acts_of (aSlot 6) (aCons (aSlot 11) aNil))) (mV (qVar 12)))) (mV (qVar 11)) [11, 12])) (mLst mNil))) (mRet (mOwn (mV (qC (.bl false))))) mSkip) (mSeq (mSetO 1 7 (mLstO (mCons (mFrz (mMake cProgram 3 d_Program_init (aCons (aSlot 4) (aCons (aSlot 5) aNil)))) (mCons (mFrz (mMake cProgram 3 d_Program_init (aCons (aSlot 4) (aCons (aVal (mBin addD (mSlH (mV (qVar 5)) (mNeg (mV (qC (.int (1)))))) (mTup (mCons (mTup (mCons (mV (qC (.str "main"))) (mCons (mTup mNil) mNil))) mNil)))) aNil)))) mNil)))) (mSeq (mApp0 7 (mFrz (mMake cProgram 3 d_Program_init (aCons (aSlot 4) (aCons (aVal (mBin addD (mTup (mCons (mTup (mCons (mV (qC (.str "x"))) (mCons (mTup mNil) mNil))) mNil)) (mV (qVar 5)))) aNil))))) (mSeq (mApp0 7 (mFrz (mMake cProgram 3 d_Program_init (aCons (aVal (mFrz (mMake cBoxes 2 d_Boxes_init (aCons (aVal (mBin addD (mV (qVar 3)) (mTup (mCons (mTup (mCons (mV (qC (.str "more"))) (mCons (mTup (mCons (mV (qC (.str "heap"))) mNil)) mNil))) mNil)))) aNil)))) (aCons (aSlot 5) aNil))))) (mSeq (mApp0 7 (mFrz (mMake cProgram 3 d_Program_init (aCons (aVal (mFrz (mMake cBoxes 2 d_Boxes_init (aCons (aVal (mRev (mV (qVar 3)) (mNeg (mV (qC (.int (1))))))) aNil)))) (aCons (aSlot 5) aNil))))) (mSeq (mSet 1 8 (mLst (mCons (mV (qC (.bl true))) (mCons (mBin (orD (orD eqD (eqT cBoxes [cBoxes, cProgram] d_Boxes_eq)) (eqT cProgram [cBoxes, cProgram] d_Program_eq)) (mIx (mV (qVar 5)) (mNeg (mV (qC (.int (1)))))) (mTup (mCons (mV (qC (.str "main"))) (mCons (mTup mNil) mNil)))) (mCons (mV (qC (.bl false))) (mCons (mV (qC (.bl false))) (mCons (mBin (orD (orD eqD (eqT cBoxes [cBoxes, cProgram] d_Boxes_eq)) (eqT cProgram [cBoxes, cProgram] d_Program_eq)) (mC1 lenD (mR (qVar 3))) (mV (qC (.int (1))))) mNil))))))) (mSeq (mIfS (mOr (mB (mBin (orD (orD neD (neT cBoxes [cBoxes, cProgram] d_Boxes_eq)) (neT cProgram [cBoxes, cProgram] d_Program_eq)) (mFrz (mComp (iSlot 7) (some 7) (gW 13) tYesM (mBin (orD (orD eqD (eqT cBoxes [cBoxes, cProgram] d_Boxes_eq)) (eqT cProgram [cBoxes, cProgram] d_Program_eq)) (mV (qVar 6)) (mV (qVar 13))) [13])) (mV (qVar 8)))) (mB (mBin (orD (orD eqD (eqT cBoxes [cBoxes, cProgram] d_Boxes_eq)) (eqT cProgram [cBoxes, cProgram] d_Program_eq)) (mV (qVar 6)) (mV (qVar 5))))) (mRet (mOwn (mV (qC (.bl false))))) mSkip) (mSeq (mSet 1 9 (mC1 tupleD (mFrz (mComp (iSeq (mV (qVar 3))) none (gT 2 (gNs (gW 11) (gNs (gW 14) gNs0))) tYesM (mTup (mCons (mV (qVar 11)) (mCons (mFrz (mCall 3 d__law_step (aCons (aSlot 2) (aCons (aSlot 14) (aCons (aVal (mLst (mCons (mV (qC (.str "a"))) mNil))) aNil))))) mNil))) [11, 14])))) (mSeq (mSet 1 10 (mFrz (mCall 2 d_Program_from_row (aCons (aSlot 4) (aCons (aSlot 9) aNil))))) (mSeq (mIfS (mOr (mB (mBin (orD (orD neD (neT cBoxes [cBoxes, cProgram] d_Boxes_eq)) (neT cProgram [cBoxes, cProgram] d_Program_eq)) (mFrz (mMeth cProgram "parts" 1 d_Program_parts (aSlot 10) aNil)) (mTup (mCons (mTup (mCons (mV (qC (.str "main"))) (mCons (mC1 tupleD (mFrz (mComp (iSeq (mV (qVar 9))) none (gW 15) tYesM (mBin addD (mTup (mCons (mV (qC (.str "do"))) mNil)) (mV (qVar 15))) [15]))) mNil))) mNil)))) (mB (mBin (orD (orD neD (neT cBoxes [cBoxes, cProgram] d_Boxes_eq)) (neT cProgram [cBoxes, cProgram] d_Program_eq)) (mFrz (mMeth cProgram "names" 1 d_Program_names (aSlot 10) aNil)) (mLst (mCons (mV (qC (.str "main"))) mNil))))) (mRet (mOwn (mV (qC (.bl false))))) mSkip) (mIfS (mNot (mB (mFrz (mCall 5 d__law_refused (aCons (aSlot 2) (aCons (aSlot 6) (aCons (aSlot 4) (aCons (aSlot 3) (aCons (aSlot 5) aNil))))))))) (mRet (mOwn (mV (qC (.bl false))))) mSkip)))))))))))))))) (rngD (n : Nat) m) [some (.v (.lst (ns.map .int))), c1, c2, c3, c4, c5, c6, c7, c8, c9, c10, none, none, none, none, none] =
      .ok .nx [some (.v (.lst (ns.map .int))), c1', c2', c3', c4', c5', c6', c7', c8', c9', c10', none, none, none, none, none]
  | 0, n, _, c1, c2, c3, c4, c5, c6, c7, c8, c9, c10 => ⟨c1, c2, c3, c4, c5, c6, c7, c8, c9, c10, rfl⟩
  | m + 1, n, h, c1, c2, c3, c4, c5, c6, c7, c8, c9, c10 => by
    obtain ⟨d2, d3, d4, d5, d6, d7, d8, d9, d10, e⟩ := round (ns := ns) (k := n) (by omega) (by omega) c1 c2 c3 c4 c5 c6 c7 c8 c9 c10
    obtain ⟨f1, f2, f3, f4, f5, f6, f7, f8, f9, f10, ih⟩ := law_loop (ns := ns) m (n + 1) (by omega) (some (.v (.int n))) d2 d3 d4 d5 d6 d7 d8 d9 d10
    refine ⟨f1, f2, f3, f4, f5, f6, f7, f8, f9, f10, ?_⟩
    have rg : rngD (n : Nat) (m + 1) = .int (n : Nat) :: rngD ((n + 1 : Nat) : Int) m := by rw [rng_succ]; rfl
    rw [rg, for_cons]
    show (_ : R Fl).bind _ = _
    rw [show (([some (.v (.lst (ns.map .int))), c1, c2, c3, c4, c5, c6, c7, c8, c9, c10, none, none, none, none, none] : DL.Env).set 1 (some (.v (.int (n : Nat))))) = [some (.v (.lst (ns.map .int))), some (.v (.int (n : Nat))), c2, c3, c4, c5, c6, c7, c8, c9, c10, none, none, none, none, none] from rfl]
    rw [e]
    exact ih
theorem pure_law (ns : List Int) (h : ns.length ≤ 63) : ∃ ρ, d_law [.v (.lst (ns.map .int))] = .ok (.v (.bl true)) ρ := by
  obtain ⟨m, hm, e⟩ := rounds ns
  obtain ⟨f1, f2, f3, f4, f5, f6, f7, f8, f9, f10, ih⟩ := law_loop (ns := ns) m 0 (by omega) none none none none none none none none none none
  refine ⟨[some (.v (.lst (ns.map .int)))], ?_⟩
  generalize ns.map D.int = N at *
  have z : ((0 : Nat) : Int) = 0 := rfl
  rw [z] at ih
  unfold d_law denOf m_law
  simp -dsimp [e, ih]
end K84

set_option maxRecDepth 100000
set_option maxHeartbeats 0
namespace K84
open PySem PySem.W PySem.Calls PyProof.Rows Hx DL
theorem rowsND : (tSTEP_SORTS.map DL.Row3.key).Nodup := by decide +kernel
theorem tx {w : World} {K : PySem.W.Frag} {mg : PySem.Str → Option Value} {h : Heap} (X : K.In h) (G : h.Ns mainGlobals mg) (e : obsK facts defs tabs K = dueK P defs tabs w) : Tx w K mg :=
  tx_of (mgK_of X G) (says_fact e) (says_def e) (says_tab e 0 rfl rowsND)
end K84
open PySem PySem.W PySem.Calls PyProof.Rows
theorem PySem.Challenge.cw_boxeffects_k84_programs_built_holds : PySem.Challenge.rw_boxeffects_k84_programs_built.Holds := by
  w_on; o_law
  refine Hx.holds_beh (r := OpenLaw.row PySem.Challenge.rw_boxeffects_k84_programs_built) (q := K84.q) (loose := K84.loose) (d := HandSHeadRun.topDef (OpenLaw.row PySem.Challenge.rw_boxeffects_k84_programs_built).prog 59) (kwd := []) K84.beh rfl K84.hk.keeps
    (by kernel_rfl) (by kernel_rfl) (by kernel_rfl) (by first | assumption | decide +kernel) (by decide +kernel) ⟨rfl, rfl, rfl, rfl, rfl, by decide +kernel⟩ ?hw ?hc
  case hw => w_witness2
  case hc =>
    refine DL.walk_den (l := PySem.Challenge.rw_boxeffects_k84_programs_built) (n := 63) (k := 13) (den := K84.d_law) rfl (by decide) (by kernel_rfl) ⟨rfl, by decide, by decide⟩ ?F K84.pure_law
    intro w mg fa h Y G hmg0
    obtain ⟨K, KX, c⟩ := Y
    have T := K84.tx KX G c
    have hmg : mg ("law" : PySem.Str) = some (.ref fa) := by
      have e : (HandSHeadRun.topDef (OpenLaw.row PySem.Challenge.rw_boxeffects_k84_programs_built).prog 59).name = ("law" : PySem.Str) := by kernel_rfl
      rw [← e]
      exact hmg0
    have e := hmg.symm.trans T.g_law
    cases e
    exact ⟨K, KX, T.nol, fun base _ _ => (K84.okf_law (base := base) T).fn⟩

