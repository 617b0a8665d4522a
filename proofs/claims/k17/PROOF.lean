import PyProof.Rows.All
import Wide.All
import OpenK.AllK
import Wide.FinOn
import HandS.TupAny
import HandS.TupMul
import HandS.Conv
import HandS.SetFor
import HandS.DictTup
import HandS.ForMost
import HandS.Exc
import HandS.TryOnly
import HandS.ExcOwn
import HandS.WordsExc
import HandS.IsInst
import HandS.Wide
import HandS.SortInts
import HandS.Style
import HandS.Flow
import HandS.Zip
import HandS.Deep
import HandS.Nested
import HandS.NestedK
import HandS.TryMany
import HandS.ExcSuper
import HandS.ExcField
import HandS.SetKeys
import HandS.TupSets
import KE.KTupSum
import KE.DataMinMax
import KE.KNestM
import KE.KExcSuper
import KE.RegKSuper
import KE.KExcLine
import HandS.ExcInit
import HandS.Strs
import KE.KDictPairs
import HandS.Dict
import HandS.EndOwn
import KE.DatumOrd
import PySem.Challenge.RW_carrierroads_k17_whole_pairs_of_heaps
set_option Elab.async false
set_option linter.all false
set_option maxRecDepth 100000
set_option maxHeartbeats 8000000
/-! D0: tuples that the program makes, known whole (so that it is known that they have no dict of their own). -/
namespace DL
open PySem PySem.Spec PyProof.Rows L2
/-- what a rule that makes a tuple asks for -/
def NewT (H : Hp) (Q : VK) (xs : List V) : Prop := ∀ (p : Addr) (o : Obj), H p = none → o.dict = none → Q (.ref p) (upd H p (.frz o (.tup xs)))
section
variable {X : Cx} {pins : List (Addr × Obj)} {σ : L2.St} {H : Hp} {s : Shared}
theorem lay_tup {xs : List V} {its : List Value} {Q : VK} (I : Inv X pins σ H s) (z : xs.length ≤ sizeLine) (r : Vals xs its) (q : NewT H Q xs) :
    EP X pins σ Q (.ref s.heap.objs.size) { s with heap := s.heap.push { cls := .type "tuple", data := .seq its.toArray } } := by
  have J := I.laid (t' := s.toks) (o := .frz { cls := .type "tuple", data := .seq its.toArray } (.tup xs)) (h' := s.heap.push { cls := .type "tuple", data := .seq its.toArray }) (fun _ _ w => Heap.get?_push_of_some _ w) (Nat.le_refl _)
    ⟨Heap.get?_push_size _ rfl, z, its, r, IsTup.new _ _⟩
  exact ⟨.ref s.heap.objs.size, _, J, rfl, q _ _ (I.hok.fresh (Nat.le_refl _)) rfl⟩
/-- (a, b, ..) -/
theorem pe_tupZ {es : List Expr} {x1 : Nat} {pos : Pos} {t : TA} (h : PA X es t) : PE X (.Tuple es x1 pos) (fun σ H Q => t σ H fun xs H1 => xs.length ≤ sizeLine ∧ NewT H1 Q xs) := by
  constructor
  intro pins s σ H Q I hq
  exact wpAny_Tuple_spliced (thn (h.run pos pins s σ H _ I hq) fun us s1 ⟨xs, H1, I1, r, z, q⟩ => ⟨by have := r.length; omega, lay_tup I1 z r q⟩)
/-- tuple(t) -/
theorem call_tupZ : CallR X (.type "tuple") (fun xs H Q => ∃ p ys, xs = [.ref p] ∧ ((SqL X.K H p ys ∧ NewT H Q ys) ∨ (SqT X.K H p ys ∧ Q (.ref p) H))) := by
  rintro pins s σ H xs us Q I r ⟨p, ys, rfl, h⟩
  obtain ⟨u, rfl, rx⟩ := vals1 r
  cases rx
  rcases h with ⟨hq, q⟩ | ⟨hq, q⟩
  · obtain ⟨its, rs, pl, hz⟩ := I.list hq
    have le := rs.length
    refine call_tuple_list pl.isList (fun h' kp => ?_) (by simp only [List.size_toArray]; omega)
    have J : Inv X pins σ H { s with heap := h' } := I.kept (t' := s.toks) kp
    exact lay_tup J hz rs q
  · obtain ⟨its, _, pl, _⟩ := I.tuple hq
    exact call_tuple_same pl (show EP X pins σ Q _ _ from ⟨V.ref p, H, I, rfl, q⟩)
/-- t[lo:hi]; the whole of it is t itself -/
theorem sl_tupZ : SlR X (fun x lo hi H Q => ∃ a xs, x = .ref a ∧ SqT X.K H a xs ∧ ((HT.sIx xs.length 0 lo = 0 ∧ HT.sIx xs.length xs.length hi = xs.length) → Q (.ref a) H) ∧ (¬ (HT.sIx xs.length 0 lo = 0 ∧ HT.sIx xs.length xs.length hi = xs.length) → NewT H Q (cutV xs lo hi))) := by
  rintro pins s σ H x v vl vu lo hi sl Q I rx hs pl pu ⟨a, xs, rfl, hx, q1, q2⟩
  by_cases hw : HT.sIx xs.length 0 lo = 0 ∧ HT.sIx xs.length xs.length hi = xs.length
  · exact sl_tupA pins s σ H _ v vl vu lo hi sl Q I rx hs pl pu ⟨a, xs, rfl, hx, q1, fun e => absurd hw e⟩
  cases rx
  obtain ⟨its, r, ht, hz⟩ := I.tuple hx
  have le : its.toArray.size = xs.length := by rw [List.size_toArray]; exact r.length.symm
  refine ⟨"tuple", _, PyProof.Rows.slot_tuple_getitem.lookup, ht.typeIs, HT.getItem_tuple_cut ht hs pl pu (by rwa [le]) ?_ (by rwa [le])⟩
  have w := lay_tup (its := (its.drop (HT.sIx xs.length 0 lo)).take (HT.sIx xs.length xs.length hi - HT.sIx xs.length 0 lo)) I (Nat.le_trans (cutV_length xs lo hi) hz) ((r.drop _).take _) (q2 hw)
  rw [le]
  exact w
/-- t + u -/
theorem op_catZ : OpR X (binaryOp .Add) (fun x y H Q => ∃ a b xs ys, x = .ref a ∧ y = .ref b ∧ SqT X.K H a xs ∧ SqT X.K H b ys ∧ xs.length + ys.length ≤ sizeLine ∧
    (xs = [] → Q (.ref b) H) ∧ (xs ≠ [] → ys = [] → Q (.ref a) H) ∧ (xs ≠ [] → ys ≠ [] → NewT H Q (xs ++ ys))) := by
  rintro pins s σ H x y v u Q I rx ry ⟨a, b, xs, ys, rfl, rfl, ha, hb, hz, q0, q1, q2⟩
  by_cases c : xs = [] ∨ ys = []
  · refine op_catA pins s σ H _ _ v u Q I rx ry ⟨a, b, xs, ys, rfl, rfl, ha, hb, hz, q0, q1, fun e1 e2 => ?_⟩
    rcases c with c | c
    · exact absurd c e1
    · exact absurd c e2
  cases rx
  cases ry
  obtain ⟨i1, r1, p1, _⟩ := I.tuple ha
  obtain ⟨i2, r2, p2, _⟩ := I.tuple hb
  have c1 : xs ≠ [] := fun e => c (.inl e)
  have c2 : ys ≠ [] := fun e => c (.inr e)
  have z2 : i1.length + i2.length ≤ sizeLine := by rw [← r1.length, ← r2.length]; exact hz
  refine HT.cat_tup p1 p2 (fun e => c1 (r1.nil_iff.mp e)) (fun e => absurd (r2.nil_iff.mp e) c2) (fun _ => ?_) z2
  exact lay_tup I (by rw [List.length_append]; exact hz) (r1.append r2) (q2 c1 c2)
/-- t * k -/
theorem op_repZ : OpR X (binaryOp .Mult) (fun x y H Q => ∃ l k xs, x = .ref l ∧ y = .int k ∧ SqT X.K H l xs ∧ xs ≠ [] ∧ 2 ≤ k ∧ k ≤ 1000 ∧ xs.length ≤ 1000 ∧ NewT H Q (List.replicate k.toNat xs).flatten) := by
  rintro pins s σ H x y v u Q I rx ry ⟨l, k, xs, rfl, rfl, hT, hne, h1, h2, hz, q⟩
  cases rx
  obtain ⟨t, rfl⟩ := ry
  obtain ⟨its, r, ⟨⟨cls, dd, data, sl⟩, ho, hc, n, hd⟩, hs⟩ := I.tuple hT
  simp only at hc hd
  subst hc hd
  have le : its.length = xs.length := r.length.symm
  have hi : its.toArray.isEmpty = false := by
    cases its with
    | nil => exact absurd (List.eq_nil_of_length_eq_zero (by simpa using le.symm)) hne
    | cons a b => rfl
  have sz : its.toArray.size = xs.length := by rw [List.size_toArray, le]
  have pm : ((xs.length : Nat) : Int) * k ≤ 1000000 := by
    have w : ((xs.length : Nat) : Int) * k ≤ 1000 * k := Int.mul_le_mul_of_nonneg_right (by omega) (by omega)
    omega
  have pn : k.toNat * xs.length ≤ 1000000 := by
    have w : k.toNat * xs.length ≤ 1000 * 1000 := Nat.mul_le_mul (by omega) hz
    omega
  have k1 : (decide (k < -(2 ^ 63)) || decide (k ≥ 2 ^ 63)) = false := by simp; omega
  have k2 : (its.toArray.isEmpty || k == 1) = false := by rw [hi]; simp; omega
  have k3 : (decide (k ≤ 0) || its.toArray.isEmpty) = false := by rw [hi]; simp; omega
  have k4 : Builtin.Tuple.tupleTooMany (((its.toArray.size : Nat) : Int) * k) = false := by
    unfold Builtin.Tuple.tupleTooMany
    rw [sz, sizeLine_eq]
    exact decide_eq_false (by omega)
  have k5 : (List.replicate k.toNat its).flatten.length ≤ sizeLine := by
    rw [PyProof.Rows.lm_len_rep_flat, le, sizeLine_eq]
    omega
  have m := tuple_mulW l its.toArray n dd sl k t k1 k2 k3 (by rw [sz]; omega) k4 (by rw [size_rep, List.size_toArray]; exact k5)
  have fin : EP X pins σ Q (.ref s.heap.objs.size) { s with heap := s.heap.push { cls := .type "tuple", data := .seq (List.replicate k.toNat its).flatten.toArray } } :=
    lay_tup I (by rw [PyProof.Rows.lm_len_rep_flat, sizeLine_eq]; omega) (r.rep k.toNat) q
  rw [← size_rep] at fin
  exact wpAny_binaryOp_repeat_ref (T := "tuple") (U := "int") (by decide) ⟨_, ho, rfl⟩ (fun w => typeIs_int w k t) noFill_tuple_mul F.fills_int_mul F.slot_int_rmul repeat_tuple F.slot_int_index.lookup
    (call_meets F.slot_int_rmul (typeIs_int s k t) F.entry_int_rmul (F.args_int_rmul_2 _ _) (int_rmul_tuple k t l its.toArray n dd sl) ⟨ho, rfl, ⟨_, ho, rfl⟩,
      call_meets F.slot_tuple_mul ⟨_, ho, rfl⟩ F.entry_tuple_mul (F.args_tuple_mul_2 _ _) m ⟨ho, fin⟩⟩)
end
end DL
namespace DL
open PySem PySem.Spec PyProof.Rows L2

/-! ### data -/
/-- a value that never changes -/
inductive PV where
  | non | bl (b : Bool) | int (i : Int) | str (x : Str) | tup (xs : List PV) | lst (xs : List PV) | fro (xs : List PV) | glob (n : Str)
/-- what may change -/
inductive Cell where
  | lst (xs : List PV)
  | nst (ks : List Nat)
  | dct (kvs : List (Int × PV))
  | fn
  | tab (x : Str)
abbrev AH := List Cell
/-- what a name holds -/
inductive DV where
  | p (v : PV) | c (n : Nat)
abbrev Sig := List (Option DV)
inductive Res (α : Type) where
  | ok (a : α) (S : AH) | exc (c : Str) (p : List (Str × PV)) (S : AH) | bad
def Res.bind {α β : Type} (r : Res α) (k : α → AH → Res β) : Res β := match r with
  | .ok a S => k a S
  | .exc c p S => .exc c p S
  | .bad => .bad
@[simp] theorem Res.bind_ok {α β : Type} (a : α) (S : AH) (k : α → AH → Res β) : (Res.ok a S).bind k = k a S := rfl
@[simp] theorem Res.bind_exc {α β : Type} (c : Str) (p : List (Str × PV)) (S : AH) (k : α → AH → Res β) : (Res.exc c p S : Res α).bind k = .exc c p S := rfl
@[simp] theorem Res.bind_bad {α β : Type} (k : α → AH → Res β) : (Res.bad : Res α).bind k = .bad := rfl
inductive Out where
  | nx (δ : Sig) (S : AH) | rt (d : DV) (S : AH) | rtT (ds : List DV) (S : AH) | bk (δ : Sig) (S : AH) | ct (δ : Sig) (S : AH) | exc (c : Str) (p : List (Str × PV)) (δ : Sig) (S : AH) | bad

/-! ### the relation -/
/-- the written part, the module's names -/
structure Wd where
  K : PySem.W.Frag
  mg : Str → Option Value
/-- where the cells lie; what nobody sees -/
structure As where
  cells : List Addr
  hid : Addr → Prop
def As.off (as : As) (a : Addr) : Prop := a ∉ as.cells ∧ ¬ as.hid a
def As.add (as : As) (p : Addr) : As := ⟨as.cells ++ [p], as.hid⟩
def As.hide (as : As) (p : Addr) : As := ⟨as.cells, fun a => as.hid a ∨ a = p⟩
def KT (K : PySem.W.Frag) (a : Addr) (xs : List V) : Prop :=
  ∃ (o : Obj) (its : Array Value) (n : Nat), K.lookup a = some o ∧ o.cls = .type "tuple" ∧ o.dict = none ∧ o.data = .seq its n ∧ its.size ≤ sizeLine ∧ Vals xs its.toList
def RdT (K : PySem.W.Frag) (as : As) (H : Hp) (a : Addr) (xs : List V) : Prop := xs.length ≤ sizeLine ∧ (((∃ o : Obj, o.dict = none ∧ H a = some (.frz o (.tup xs))) ∧ as.off a) ∨ KT K a xs)
def RdL (as : As) (H : Hp) (a : Addr) (xs : List V) : Prop := xs.length ≤ sizeLine ∧ H a = some (.lst xs) ∧ as.off a
def KL (K : PySem.W.Frag) (a : Addr) (xs : List V) : Prop :=
  ∃ (o : Obj) (its : Array Value) (n : Nat), K.lookup a = some o ∧ o.cls = .type "list" ∧ o.dict = none ∧ o.data = .seq its n ∧ its.size ≤ sizeLine ∧ Vals xs its.toList
def RdF (K : PySem.W.Frag) (as : As) (H : Hp) (a : Addr) (xs : List V) : Prop := xs.length ≤ sizeLine ∧ (((∃ o, H a = some (.frz o (.lst xs))) ∧ as.off a) ∨ KL K a xs)
mutual
inductive PR (M : Wd) (as : As) (H : Hp) : V → PV → Prop
  | non : PR M as H .non .non
  | bl (b : Bool) : PR M as H (.bl b) (.bl b)
  | int (i : Int) : PR M as H (.int i) (.int i)
  | str (x : Str) : PR M as H (.str x) (.str x)
  | tup {a : Addr} {vs : List V} {ps : List PV} : RdT M.K as H a vs → PRs M as H vs ps → PR M as H (.ref a) (.tup ps)
  | lst {a : Addr} {vs : List V} {ps : List PV} : RdL as H a vs → PRs M as H vs ps → PR M as H (.ref a) (.lst ps)
  | fro {a : Addr} {vs : List V} {ps : List PV} : RdF M.K as H a vs → PRs M as H vs ps → PR M as H (.ref a) (.fro ps)
  | glob {v : V} {u : Value} {n : Str} : M.mg n = some u → RelV v u → PR M as H v (.glob n)
inductive PRs (M : Wd) (as : As) (H : Hp) : List V → List PV → Prop
  | nil : PRs M as H [] []
  | cons {v : V} {vs : List V} {p : PV} {ps : List PV} : PR M as H v p → PRs M as H vs ps → PRs M as H (v :: vs) (p :: ps)
end

/-- the later state -/
structure Ext (as : As) (H : Hp) (as' : As) (H' : Hp) : Prop where
  more : ∃ m, as'.cells = as.cells ++ m
  hids : as'.hid = as.hid
  keep : ∀ a o, H a = some o → as.off a → H' a = some o ∧ as'.off a
  hkeep : ∀ a o, as.hid a → H a = some o → H' a = some o
  exts : ∀ a g, H a = some (.ext g) → H' a = some (.ext g)
theorem Ext.refl (as : As) (H : Hp) : Ext as H as H := ⟨⟨[], by simp⟩, rfl, fun a o h n => ⟨h, n⟩, fun _ _ _ h => h, fun _ _ h => h⟩
theorem Ext.trans {as as1 as2 : As} {H H1 H2 : Hp} (x : Ext as H as1 H1) (y : Ext as1 H1 as2 H2) : Ext as H as2 H2 := by
  obtain ⟨m1, e1⟩ := x.more
  obtain ⟨m2, e2⟩ := y.more
  refine ⟨⟨m1 ++ m2, by rw [e2, e1, List.append_assoc]⟩, by rw [y.hids, x.hids], fun a o h n => ?_, fun a o hh h => ?_, fun a g h => y.exts a g (x.exts a g h)⟩
  · obtain ⟨h1, n1⟩ := x.keep a o h n
    exact y.keep a o h1 n1
  · exact y.hkeep a o (by rw [x.hids]; exact hh) (x.hkeep a o hh h)
theorem Ext.get {as as' : As} {H H' : Hp} (x : Ext as H as' H') {i : Nat} {a : Addr} (h : as.cells[i]? = some a) : as'.cells[i]? = some a := by
  obtain ⟨m, e⟩ := x.more
  rw [e, List.getElem?_append_left (List.getElem?_eq_some_iff.mp h).1]
  exact h
/-- the later state, whatever is hidden -/
structure Exw (as : As) (H : Hp) (as' : As) (H' : Hp) : Prop where
  more : ∃ m, as'.cells = as.cells ++ m
  keep : ∀ a o, H a = some o → as.off a → H' a = some o ∧ as'.off a
theorem Ext.w {as as' : As} {H H' : Hp} (x : Ext as H as' H') : Exw as H as' H' := ⟨x.more, x.keep⟩
instance {as as' : As} {H H' : Hp} : CoeOut (Ext as H as' H') (Exw as H as' H') := ⟨Ext.w⟩
theorem Exw.get {as as' : As} {H H' : Hp} (x : Exw as H as' H') {i : Nat} {a : Addr} (h : as.cells[i]? = some a) : as'.cells[i]? = some a := by
  obtain ⟨m, e⟩ := x.more
  rw [e, List.getElem?_append_left (List.getElem?_eq_some_iff.mp h).1]
  exact h
theorem Exw.trans {as as1 as2 : As} {H H1 H2 : Hp} (x : Exw as H as1 H1) (y : Exw as1 H1 as2 H2) : Exw as H as2 H2 := by
  obtain ⟨m1, e1⟩ := x.more
  obtain ⟨m2, e2⟩ := y.more
  refine ⟨⟨m1 ++ m2, by rw [e2, e1, List.append_assoc]⟩, fun a o h n => ?_⟩
  obtain ⟨h1, n1⟩ := x.keep a o h n
  exact y.keep a o h1 n1
section
variable {M : Wd} {as as' : As} {H H' : Hp}
theorem RdT.mono {K : PySem.W.Frag} {a : Addr} {xs : List V} (x : Exw as H as' H') (h : RdT K as H a xs) : RdT K as' H' a xs := by
  refine ⟨h.1, ?_⟩
  rcases h.2 with ⟨⟨o, d, e⟩, n⟩ | h
  · obtain ⟨e', n'⟩ := x.keep _ _ e n
    exact .inl ⟨⟨o, d, e'⟩, n'⟩
  · exact .inr h
theorem RdL.mono {a : Addr} {xs : List V} (x : Exw as H as' H') (h : RdL as H a xs) : RdL as' H' a xs := ⟨h.1, x.keep _ _ h.2.1 h.2.2⟩
theorem RdF.mono {K : PySem.W.Frag} {a : Addr} {xs : List V} (x : Exw as H as' H') (h : RdF K as H a xs) : RdF K as' H' a xs := by
  refine ⟨h.1, ?_⟩
  rcases h.2 with ⟨⟨o, e⟩, n⟩ | h
  · obtain ⟨e', n'⟩ := x.keep _ _ e n
    exact .inl ⟨⟨o, e'⟩, n'⟩
  · exact .inr h
mutual
theorem PR.mono (x : Exw as H as' H') : ∀ {v : V} {p : PV}, PR M as H v p → PR M as' H' v p
  | _, _, .non => .non
  | _, _, .bl b => .bl b
  | _, _, .int i => .int i
  | _, _, .str y => .str y
  | _, _, .tup h t => .tup (h.mono x) (PRs.mono x t)
  | _, _, .lst h t => .lst (h.mono x) (PRs.mono x t)
  | _, _, .fro h t => .fro (h.mono x) (PRs.mono x t)
  | _, _, .glob h r => .glob h r
theorem PRs.mono (x : Exw as H as' H') : ∀ {vs : List V} {ps : List PV}, PRs M as H vs ps → PRs M as' H' vs ps
  | _, _, .nil => .nil
  | _, _, .cons h t => .cons (PR.mono x h) (PRs.mono x t)
end
theorem PRs.length : ∀ {vs : List V} {ps : List PV}, PRs M as H vs ps → vs.length = ps.length
  | _, _, .nil => rfl
  | _, _, .cons _ t => congrArg (· + 1) (PRs.length t)
theorem PRs.get : ∀ {vs : List V} {ps : List PV} {i : Nat} {p : PV}, PRs M as H vs ps → ps[i]? = some p → ∃ v, vs[i]? = some v ∧ PR M as H v p
  | _, _, _, _, .nil, e => by simp at e
  | _, _, 0, _, .cons r _, e => by simp at e; subst e; exact ⟨_, rfl, r⟩
  | _, _, i + 1, p, .cons _ t, e => by
    obtain ⟨u, h1, h2⟩ := PRs.get (i := i) (p := p) t (by simpa using e)
    exact ⟨u, by simpa using h1, h2⟩
theorem PRs.getV : ∀ {vs : List V} {ps : List PV} {i : Nat} {v : V}, PRs M as H vs ps → vs[i]? = some v → ∃ p, ps[i]? = some p ∧ PR M as H v p
  | _, _, _, _, .nil, e => by simp at e
  | _, _, 0, _, .cons r _, e => by simp at e; subst e; exact ⟨_, rfl, r⟩
  | _, _, i + 1, v, .cons _ t, e => by
    obtain ⟨u, h1, h2⟩ := PRs.getV (i := i) (v := v) t (by simpa using e)
    exact ⟨u, by simpa using h1, h2⟩
theorem PRs.append : ∀ {vs ws : List V} {ps qs : List PV}, PRs M as H vs ps → PRs M as H ws qs → PRs M as H (vs ++ ws) (ps ++ qs)
  | _, _, _, _, .nil, s => s
  | _, _, _, _, .cons r t, s => .cons r (PRs.append t s)
theorem PRs.take : ∀ {vs : List V} {ps : List PV} (n : Nat), PRs M as H vs ps → PRs M as H (vs.take n) (ps.take n)
  | _, _, 0, _ => .nil
  | _, _, _ + 1, .nil => .nil
  | _, _, n + 1, .cons r t => .cons r (PRs.take n t)
theorem PRs.drop : ∀ {vs : List V} {ps : List PV} (n : Nat), PRs M as H vs ps → PRs M as H (vs.drop n) (ps.drop n)
  | _, _, 0, r => r
  | _, _, _ + 1, .nil => .nil
  | _, _, n + 1, .cons _ t => PRs.drop n t
theorem PRs.set {v : V} {p : PV} (r : PR M as H v p) : ∀ {vs : List V} {ps : List PV} (i : Nat), PRs M as H vs ps → PRs M as H (vs.set i v) (ps.set i p)
  | _, _, _, .nil => .nil
  | _, _, 0, .cons _ t => .cons r t
  | _, _, i + 1, .cons q t => .cons q (PRs.set r i t)
theorem PRs.reverse {vs : List V} {ps : List PV} (h : PRs M as H vs ps) : PRs M as H vs.reverse ps.reverse := by
  have go : ∀ (vs : List V) (ps : List PV), PRs M as H vs ps → PRs M as H vs.reverse ps.reverse := by
    intro vs
    induction vs with
    | nil => intro ps h; cases h; exact .nil
    | cons v vs ih =>
      intro ps h
      cases h with
      | cons r t => rw [List.reverse_cons, List.reverse_cons]; exact PRs.append (ih _ t) (.cons r .nil)
  exact go vs ps h
theorem PRs.dropLast {vs : List V} {ps : List PV} (h : PRs M as H vs ps) : PRs M as H vs.dropLast ps.dropLast := by
  rw [List.dropLast_eq_take, List.dropLast_eq_take, h.length]
  exact h.take _
theorem PRs.ints : ∀ {vs : List V} {ns : List Int}, PRs M as H vs (ns.map PV.int) → vs = ns.map V.int
  | vs, [], h => by cases h; rfl
  | vs, n :: ns, h => by
    cases h with
    | cons r t => cases r; rw [PRs.ints t]; rfl
theorem PRs.bls : ∀ {vs : List V} {ns : List Bool}, PRs M as H vs (ns.map PV.bl) → vs = ns.map V.bl
  | vs, [], h => by cases h; rfl
  | vs, n :: ns, h => by
    cases h with
    | cons r t => cases r; rw [PRs.bls t]; rfl
theorem PRs.of_ints : ∀ (ns : List Int), PRs M as H (ns.map V.int) (ns.map PV.int)
  | [] => .nil
  | n :: ns => .cons (.int n) (PRs.of_ints ns)
theorem RdT.sq {K : PySem.W.Frag} {a : Addr} {xs : List V} (h : RdT K as H a xs) : SqT K H a xs := by
  rcases h.2 with ⟨⟨o, _, e⟩, _⟩ | ⟨o, its, n, h1, h2, _, h4, h5, h6⟩
  · exact .inl (.inr ⟨o, e⟩)
  · exact .inr ⟨o, its, n, h1, h2, h4, h5, h6⟩
theorem RdL.sq {K : PySem.W.Frag} {a : Addr} {xs : List V} (h : RdL as H a xs) : SqL K H a xs := .of h.2.1
theorem RdF.sq {K : PySem.W.Frag} {a : Addr} {xs : List V} (h : RdF K as H a xs) : SqL K H a xs := by
  rcases h.2 with ⟨⟨o, e⟩, _⟩ | h
  · exact .inl (.inr ⟨o, e⟩)
  · exact .inr h
end

/-! ### the cells -/
/-- values that are cells -/
def KRs (as : As) (vs : List V) (ks : List Nat) : Prop := Paired (fun (v : V) (k : Nat) => ∃ b, as.cells[k]? = some b ∧ v = .ref b) vs ks
/-- a dict's entries -/
def dzip (kvs : List (Int × PV)) (vs : List V) : List (Key × V) := (kvs.map fun p => (Sum.inl p.1 : Key)).zip vs
/-- a is the table of code objects of the def x -/
def TabK (M : Wd) (x : Str) (a : Addr) : Prop := ∃ (f c : Addr) (o : Obj) (fd : FuncData), M.mg x = some (.ref f) ∧ M.K.lookup f = some o ∧ o.data = .func fd ∧ fd.code = .ref c ∧ PySem.W.codeHdIn M.K c a = true
theorem tabN_exts {H H' : Hp} {a : Addr} {nm : Nat → Nat → Str} (h : NdefX.TabN H a nm) (k : H' a = H a) (x : ∀ b g, H b = some (.ext g) → H' b = some (.ext g)) : NdefX.TabN H' a nm := by
  obtain ⟨ps, h1, h2, h3⟩ := h
  refine ⟨ps, by rw [k]; exact h1, h2, fun pos cv hc => ?_⟩
  obtain ⟨c, e1, e2⟩ := h3 pos cv hc
  exact ⟨c, e1, x c _ e2⟩
def CR (M : Wd) (as : As) (H : Hp) (a : Addr) : Cell → Prop
  | .lst ps => ∃ vs, vs.length ≤ sizeLine ∧ H a = some (.lst vs) ∧ PRs M as H vs ps
  | .nst ks => ∃ vs, vs.length ≤ sizeLine ∧ H a = some (.lst vs) ∧ KRs as vs ks
  | .dct kvs => ∃ vs, vs.length ≤ sizeLine ∧ H a = some (.dK (dzip kvs vs)) ∧ PRs M as H vs (kvs.map (·.2))
  | .fn => ∃ g : Heap → Prop, H a = some (.ext g)
  | .tab x => TabK M x a ∧ NdefX.TabN H a (fun _ _ => x ++ ".<locals>.visit")
theorem KRs.mono {as as' : As} {H H' : Hp} (x : Exw as H as' H') {vs : List V} {ks : List Nat} (h : KRs as vs ks) : KRs as' vs ks := Paired.mapP h fun _ _ ⟨b, e, r⟩ => ⟨b, x.get e, r⟩
structure SR (M : Wd) (as : As) (H : Hp) (S : AH) : Prop where
  len : as.cells.length = S.length
  nd : as.cells.Nodup
  apart : ∀ a ∈ as.cells, ¬ as.hid a
  hidd : ∀ a, as.hid a → ∃ o, H a = some o
  cell : ∀ (i : Nat) (a : Addr) (c : Cell), as.cells[i]? = some a → S[i]? = some c → CR M as H a c
def DVR (M : Wd) (as : As) (H : Hp) (v : V) : DV → Prop
  | .p x => PR M as H v x
  | .c n => ∃ a, as.cells[n]? = some a ∧ v = .ref a
abbrev DVRs (M : Wd) (as : As) (H : Hp) : List V → List DV → Prop := Paired (DVR M as H)
structure ER (M : Wd) (as : As) (H : Hp) (σ : L2.St) (δ : Sig) : Prop where
  len : σ.length = δ.length
  get : ∀ (i : Nat) (d : DV), δ[i]? = some (some d) → ∃ v, σ[i]? = some (some v) ∧ DVR M as H v d
section
variable {M : Wd} {as as' : As} {H H' : Hp} {S : AH} {σ : L2.St} {δ : Sig}
theorem DVR.mono (x : Exw as H as' H') {v : V} : ∀ {d : DV}, DVR M as H v d → DVR M as' H' v d
  | .p _, h => PR.mono x h
  | .c _, ⟨a, e, r⟩ => ⟨a, x.get e, r⟩
theorem DVRs.mono (x : Exw as H as' H') {vs : List V} {ds : List DV} (h : DVRs M as H vs ds) : DVRs M as' H' vs ds := Paired.mapP h fun _ _ => DVR.mono x
theorem ER.mono (x : Exw as H as' H') (h : ER M as H σ δ) : ER M as' H' σ δ := ⟨h.len, fun i d e => by
  obtain ⟨v, q, r⟩ := h.get i d e
  exact ⟨v, q, r.mono x⟩⟩
theorem ER.set (h : ER M as H σ δ) {v : V} {d : DV} (r : DVR M as H v d) (i : Nat) : ER M as H (σ.set i (some v)) (δ.set i (some d)) := by
  refine ⟨by rw [List.length_set, List.length_set]; exact h.len, fun j e q => ?_⟩
  by_cases hj : i = j
  · subst hj
    have hi : i < δ.length := by have := (List.getElem?_eq_some_iff.mp q).1; rw [List.length_set] at this; exact this
    rw [List.getElem?_set_self hi] at q
    cases q
    exact ⟨v, List.getElem?_set_self (by rw [h.len]; exact hi), r⟩
  · rw [List.getElem?_set_ne hj] at q ⊢
    exact h.get j e q
theorem ER.clear (h : ER M as H σ δ) (i : Nat) : ER M as H (σ.set i none) (δ.set i none) := by
  refine ⟨by rw [List.length_set, List.length_set]; exact h.len, fun j e q => ?_⟩
  by_cases hj : i = j
  · subst hj
    have hi : i < δ.length := by have := (List.getElem?_eq_some_iff.mp q).1; rw [List.length_set] at this; exact this
    rw [List.getElem?_set_self hi] at q
    cases q
  · rw [List.getElem?_set_ne hj] at q ⊢
    exact h.get j e q
def wipeD (δ : Sig) : List Nat → Sig
  | [] => δ
  | v :: vs => (wipeD δ vs).set v none
theorem ER.wipe (h : ER M as H σ δ) : ∀ vs, ER M as H (L2.wipe σ vs) (wipeD δ vs)
  | [] => h
  | v :: vs => (ER.wipe h vs).clear v

theorem SR.mem_some (h : SR M as H S) {p : Addr} (m : p ∈ as.cells) : ∃ o, H p = some o := by
  obtain ⟨i, hi⟩ := List.mem_iff_getElem?.mp m
  have hl : i < S.length := by rw [← h.len]; exact (List.getElem?_eq_some_iff.mp hi).1
  have q := h.cell i p S[i] hi (List.getElem?_eq_getElem hl)
  revert q
  cases S[i] with
  | lst ps => rintro ⟨vs, _, e, _⟩; exact ⟨_, e⟩
  | nst ks => rintro ⟨vs, _, e, _⟩; exact ⟨_, e⟩
  | dct kvs => rintro ⟨vs, _, e, _⟩; exact ⟨_, e⟩
  | fn => rintro ⟨g, e⟩; exact ⟨_, e⟩
  | tab x => rintro ⟨_, ps, e, _⟩; exact ⟨_, e⟩
theorem SR.fresh (h : SR M as H S) {p : Addr} (n : H p = none) : as.off p := by
  refine ⟨fun m => ?_, fun m => ?_⟩
  · obtain ⟨o, e⟩ := h.mem_some m
    rw [n] at e; cases e
  · obtain ⟨o, e⟩ := h.hidd p m
    rw [n] at e; cases e
theorem CR.mono {a : Addr} (x : Ext as H as' H') (k : H' a = H a) : ∀ {c : Cell}, CR M as H a c → CR M as' H' a c
  | .lst ps, ⟨vs, z, e, r⟩ => ⟨vs, z, by rw [k]; exact e, r.mono x⟩
  | .nst ks, ⟨vs, z, e, r⟩ => ⟨vs, z, by rw [k]; exact e, r.mono x.w⟩
  | .dct kvs, ⟨vs, z, e, r⟩ => ⟨vs, z, by rw [k]; exact e, r.mono x⟩
  | .fn, ⟨g, e⟩ => ⟨g, by rw [k]; exact e⟩
  | .tab _, ⟨u, t⟩ => ⟨u, tabN_exts t k x.exts⟩
/-- something new is laid -/
theorem ext_new {o : HO} {p : Addr} (h : SR M as H S) (n : H p = none) : Ext as H as (upd H p o) :=
  ⟨⟨[], by simp⟩, rfl, fun a u e na => ⟨by rw [upd_ne (ne_of_none e n)]; exact e, na⟩, fun a u _ e => by rw [upd_ne (ne_of_none e n)]; exact e, fun a g e => by rw [upd_ne (ne_of_none e n)]; exact e⟩
theorem SR.new {o : HO} {p : Addr} (h : SR M as H S) (n : H p = none) : SR M as (upd H p o) S :=
  ⟨h.len, h.nd, h.apart, fun a ha => by
    obtain ⟨u, e⟩ := h.hidd a ha
    exact ⟨u, by rw [upd_ne (ne_of_none e n)]; exact e⟩, fun i a c e1 e2 => (h.cell i a c e1 e2).mono (ext_new h n) (upd_ne fun z => (h.fresh n).1 (by rw [← z]; exact List.mem_of_getElem? e1))⟩
theorem ext_any {o : HO} {p : Addr} (h : SR M as H S) (n : H p = none) : Ext as H (as.add p) (upd H p o) := by
  refine ⟨⟨[p], rfl⟩, rfl, fun a u e na => ⟨by rw [upd_ne (ne_of_none e n)]; exact e, fun m => ?_, na.2⟩, fun a u _ e => by rw [upd_ne (ne_of_none e n)]; exact e, fun a g e => by rw [upd_ne (ne_of_none e n)]; exact e⟩
  rcases List.mem_append.mp m with m | m
  · exact na.1 m
  · have : a = p := by simpa using m
    subst this
    rw [n] at e; cases e
theorem ext_cell {vs : List V} {p : Addr} (h : SR M as H S) (n : H p = none) : Ext as H (as.add p) (upd H p (.lst vs)) := ext_any h n
theorem SR.newAny {o : HO} {cl : Cell} {p : Addr} (h : SR M as H S) (n : H p = none) (k : CR M (as.add p) (upd H p o) p cl) : SR M (as.add p) (upd H p o) (S ++ [cl]) := by
  have x := ext_any (o := o) h n
  refine ⟨by unfold As.add; rw [List.length_append, List.length_append, h.len]; rfl, List.nodup_append.mpr ⟨h.nd, by simp, fun a ha b hb e => ?_⟩, fun a ha => ?_, fun a ha => ?_, fun i a c e1 e2 => ?_⟩
  · have : b = p := by simpa using hb
    subst this
    subst e
    exact (h.fresh n).1 ha
  · rcases List.mem_append.mp ha with m | m
    · exact h.apart a m
    · have : a = p := by simpa using m
      subst this
      exact (h.fresh n).2
  · obtain ⟨u, e⟩ := h.hidd a ha
    exact ⟨u, by rw [upd_ne (ne_of_none e n)]; exact e⟩
  · have e1 : (as.cells ++ [p])[i]? = some a := e1
    by_cases hi : i < as.cells.length
    · rw [List.getElem?_append_left hi] at e1
      rw [List.getElem?_append_left (by rw [← h.len]; exact hi)] at e2
      exact (h.cell i a c e1 e2).mono x (upd_ne fun z => (h.fresh n).1 (by rw [← z]; exact List.mem_of_getElem? e1))
    · have hl : i < (as.cells ++ [p]).length := (List.getElem?_eq_some_iff.mp e1).1
      rw [List.length_append, List.length_singleton] at hl
      have hi' : i = as.cells.length := by omega
      subst hi'
      rw [List.getElem?_append_right (Nat.le_refl _), Nat.sub_self] at e1
      rw [h.len, List.getElem?_append_right (Nat.le_refl _), Nat.sub_self] at e2
      have e1' : p = a := by simpa using e1
      have e2' : cl = c := by simpa using e2
      subst e1'
      subst e2'
      exact k
theorem SR.newCell {vs : List V} {ps : List PV} {p : Addr} (h : SR M as H S) (n : H p = none) (z : vs.length ≤ sizeLine) (r : PRs M as H vs ps) : SR M (as.add p) (upd H p (.lst vs)) (S ++ [.lst ps]) := h.newAny n ⟨vs, z, upd_same, r.mono (ext_cell (vs := vs) h n).w⟩
theorem SR.newNest {vs : List V} {ks : List Nat} {p : Addr} (h : SR M as H S) (n : H p = none) (z : vs.length ≤ sizeLine) (r : KRs as vs ks) : SR M (as.add p) (upd H p (.lst vs)) (S ++ [.nst ks]) := h.newAny n ⟨vs, z, upd_same, r.mono (ext_cell (vs := vs) h n).w⟩
theorem SR.at (h : SR M as H S) {n : Nat} {ps : List PV} (e : S[n]? = some (.lst ps)) : ∃ a vs, as.cells[n]? = some a ∧ vs.length ≤ sizeLine ∧ H a = some (.lst vs) ∧ PRs M as H vs ps := by
  have hl : n < as.cells.length := by rw [h.len]; exact (List.getElem?_eq_some_iff.mp e).1
  obtain ⟨vs, z, q, r⟩ := h.cell n as.cells[n] _ (List.getElem?_eq_getElem hl) e
  exact ⟨as.cells[n], vs, List.getElem?_eq_getElem hl, z, q, r⟩
theorem SR.atD (h : SR M as H S) {n : Nat} {kvs : List (Int × PV)} (e : S[n]? = some (.dct kvs)) : ∃ a vs, as.cells[n]? = some a ∧ vs.length ≤ sizeLine ∧ H a = some (.dK (dzip kvs vs)) ∧ PRs M as H vs (kvs.map (·.2)) := by
  have hl : n < as.cells.length := by rw [h.len]; exact (List.getElem?_eq_some_iff.mp e).1
  obtain ⟨vs, z, q, r⟩ := h.cell n as.cells[n] _ (List.getElem?_eq_getElem hl) e
  exact ⟨as.cells[n], vs, List.getElem?_eq_getElem hl, z, q, r⟩
theorem ext_write {o : HO} {n : Nat} {a : Addr} {w0 : List V} (h : SR M as H S) (e : as.cells[n]? = some a) (hw : H a = some (.lst w0)) : Ext as H as (upd H a o) :=
  ⟨⟨[], by simp⟩, rfl, fun b u q nb => ⟨by rw [upd_ne fun z => nb.1 (by rw [z]; exact List.mem_of_getElem? e)]; exact q, nb⟩, fun b u hb q => by
    rw [upd_ne fun z => h.apart b (by rw [z]; exact List.mem_of_getElem? e) hb]; exact q, fun b g q => by
    rw [upd_ne fun z => by rw [z, hw] at q; cases q]; exact q⟩
theorem SR.writeAny (h : SR M as H S) {n : Nat} {a : Addr} {o : HO} {cl : Cell} {w0 : List V} (e : as.cells[n]? = some a) (hw : H a = some (.lst w0)) (k : CR M as (upd H a o) a cl) : SR M as (upd H a o) (S.set n cl) := by
  have x : Ext as H as (upd H a o) := ext_write h e hw
  refine ⟨by rw [List.length_set]; exact h.len, h.nd, h.apart, fun b hb => ?_, fun i b c e1 e2 => ?_⟩
  · obtain ⟨u, q⟩ := h.hidd b hb
    exact ⟨u, x.hkeep b u hb q⟩
  by_cases hi : n = i
  · subst hi
    rw [e] at e1; cases e1
    have hl : n < S.length := by rw [← h.len]; exact (List.getElem?_eq_some_iff.mp e).1
    rw [List.getElem?_set_self hl] at e2
    cases e2
    exact k
  · rw [List.getElem?_set_ne hi] at e2
    refine (h.cell i b c e1 e2).mono x (upd_ne fun q => hi ?_)
    subst q
    have h1 : n < as.cells.length := (List.getElem?_eq_some_iff.mp e).1
    have h2 : i < as.cells.length := (List.getElem?_eq_some_iff.mp e1).1
    rw [List.getElem?_eq_getElem h1] at e
    rw [List.getElem?_eq_getElem h2] at e1
    exact (List.getElem_inj h.nd).mp (by simp only [Option.some.injEq] at e e1; rw [e, e1])
theorem SR.write (h : SR M as H S) {n : Nat} {a : Addr} {vs w0 : List V} {ps : List PV} (e : as.cells[n]? = some a) (hw : H a = some (.lst w0)) (z : vs.length ≤ sizeLine) (r : PRs M as H vs ps) : SR M as (upd H a (.lst vs)) (S.set n (.lst ps)) := h.writeAny e hw ⟨vs, z, upd_same, r.mono (ext_write (o := .lst vs) h e hw).w⟩
theorem SR.writeNest (h : SR M as H S) {n : Nat} {a : Addr} {vs w0 : List V} {ks : List Nat} (e : as.cells[n]? = some a) (hw : H a = some (.lst w0)) (z : vs.length ≤ sizeLine) (r : KRs as vs ks) : SR M as (upd H a (.lst vs)) (S.set n (.nst ks)) := h.writeAny e hw ⟨vs, z, upd_same, r⟩
theorem SR.atN (h : SR M as H S) {n : Nat} {ks : List Nat} (e : S[n]? = some (.nst ks)) : ∃ a vs, as.cells[n]? = some a ∧ vs.length ≤ sizeLine ∧ H a = some (.lst vs) ∧ KRs as vs ks := by
  have hl : n < as.cells.length := by rw [h.len]; exact (List.getElem?_eq_some_iff.mp e).1
  obtain ⟨vs, z, q, r⟩ := h.cell n as.cells[n] _ (List.getElem?_eq_getElem hl) e
  exact ⟨as.cells[n], vs, List.getElem?_eq_getElem hl, z, q, r⟩
/-- one thing is hidden: H is Hm with something at p -/
theorem RdT.hide {K : PySem.W.Frag} {o : HO} {p a : Addr} {xs : List V} (n : H p = none) (h : RdT K as H a xs) : RdT K (as.hide p) (upd H p o) a xs := by
  refine ⟨h.1, ?_⟩
  rcases h.2 with ⟨⟨u, d, e⟩, q⟩ | h
  · have ne : a ≠ p := ne_of_none e n
    exact .inl ⟨⟨u, d, by rw [upd_ne ne]; exact e⟩, q.1, fun z => z.elim q.2 ne⟩
  · exact .inr h
theorem RdL.hide {o : HO} {p a : Addr} {xs : List V} (n : H p = none) (h : RdL as H a xs) : RdL (as.hide p) (upd H p o) a xs := by
  have ne : a ≠ p := ne_of_none h.2.1 n
  exact ⟨h.1, by rw [upd_ne ne]; exact h.2.1, h.2.2.1, fun z => z.elim h.2.2.2 ne⟩
theorem RdF.hide {K : PySem.W.Frag} {o : HO} {p a : Addr} {xs : List V} (n : H p = none) (h : RdF K as H a xs) : RdF K (as.hide p) (upd H p o) a xs := by
  refine ⟨h.1, ?_⟩
  rcases h.2 with ⟨⟨u, e⟩, q⟩ | h
  · have ne : a ≠ p := ne_of_none e n
    exact .inl ⟨⟨u, by rw [upd_ne ne]; exact e⟩, q.1, fun z => z.elim q.2 ne⟩
  · exact .inr h
mutual
theorem PR.hide {o : HO} {p : Addr} (n : H p = none) : ∀ {v : V} {x : PV}, PR M as H v x → PR M (as.hide p) (upd H p o) v x
  | _, _, .non => .non
  | _, _, .bl b => .bl b
  | _, _, .int i => .int i
  | _, _, .str y => .str y
  | _, _, .tup h t => .tup (h.hide n) (PRs.hide n t)
  | _, _, .lst h t => .lst (h.hide n) (PRs.hide n t)
  | _, _, .fro h t => .fro (h.hide n) (PRs.hide n t)
  | _, _, .glob h r => .glob h r
theorem PRs.hide {o : HO} {p : Addr} (n : H p = none) : ∀ {vs : List V} {ps : List PV}, PRs M as H vs ps → PRs M (as.hide p) (upd H p o) vs ps
  | _, _, .nil => .nil
  | _, _, .cons h t => .cons (PR.hide n h) (PRs.hide n t)
end
/-- H without p -/
def del (H : Hp) (p : Addr) : Hp := fun b => if b = p then none else H b
theorem del_same (H : Hp) (p : Addr) : del H p p = none := by unfold del; rw [if_pos rfl]
theorem del_ne {H : Hp} {p b : Addr} (h : b ≠ p) : del H p b = H b := by unfold del; rw [if_neg h]
theorem upd_del {H : Hp} {p : Addr} {o : HO} (h : H p = some o) : upd (del H p) p o = H := by
  funext b
  by_cases e : b = p
  · subst e; rw [upd_same, h]
  · rw [upd_ne e, del_ne e]
theorem del_upd {H : Hp} {p : Addr} {o : HO} (h : H p = none) : del (upd H p o) p = H := by
  funext b
  by_cases e : b = p
  · subst e; rw [del_same, h]
  · rw [del_ne e, upd_ne e]
theorem del_updu (H : Hp) (p : Addr) (o : HO) : del (upd H p o) p = del H p := by
  funext b
  by_cases e : b = p
  · subst e; rw [del_same, del_same]
  · rw [del_ne e, del_ne e, upd_ne e]
theorem Exw.hide {as1 as : As} {H1 H : Hp} {p : Addr} {o : HO} (x : Exw as1 H1 as H) (n1 : H1 p = none) : Exw as1 H1 (as.hide p) (upd H p o) :=
  ⟨x.more, fun a u e q => by
    obtain ⟨h1, h2⟩ := x.keep a u e q
    have ne : a ≠ p := ne_of_none e n1
    exact ⟨by rw [upd_ne ne]; exact h1, h2.1, fun z => z.elim h2.2 ne⟩⟩
mutual
theorem PR.unhide {as : As} {p : Addr} : ∀ {v : V} {x : PV}, PR M (as.hide p) H v x → PR M as (del H p) v x
  | _, _, .non => .non
  | _, _, .bl b => .bl b
  | _, _, .int i => .int i
  | _, _, .str y => .str y
  | _, _, .tup h t => .tup ⟨h.1, h.2.imp (fun ⟨⟨o, d, e⟩, q⟩ => ⟨⟨o, d, by rw [del_ne fun z => q.2 (.inr z)]; exact e⟩, q.1, fun z => q.2 (.inl z)⟩) id⟩ (PRs.unhide t)
  | _, _, .lst ⟨z, e, q⟩ t => .lst ⟨z, by rw [del_ne fun z => q.2 (.inr z)]; exact e, q.1, fun z => q.2 (.inl z)⟩ (PRs.unhide t)
  | _, _, .fro h t => .fro ⟨h.1, h.2.imp (fun ⟨⟨o, e⟩, q⟩ => ⟨⟨o, by rw [del_ne fun z => q.2 (.inr z)]; exact e⟩, q.1, fun z => q.2 (.inl z)⟩) id⟩ (PRs.unhide t)
  | _, _, .glob h r => .glob h r
theorem PRs.unhide {as : As} {p : Addr} : ∀ {vs : List V} {ps : List PV}, PRs M (as.hide p) H vs ps → PRs M as (del H p) vs ps
  | _, _, .nil => .nil
  | _, _, .cons h t => .cons (PR.unhide h) (PRs.unhide t)
end
theorem SR.hide {o : HO} {p : Addr} (h : SR M as H S) (n : H p = none) : SR M (as.hide p) (upd H p o) S := by
  refine ⟨h.len, h.nd, fun a ha z => ?_, fun a ha => ?_, fun i a c e1 e2 => ?_⟩
  · rcases z with z | z
    · exact h.apart a ha z
    · subst z; exact (h.fresh n).1 ha
  · rcases ha with ha | ha
    · obtain ⟨u, e⟩ := h.hidd a ha
      exact ⟨u, by rw [upd_ne (ne_of_none e n)]; exact e⟩
    · subst ha; exact ⟨o, upd_same⟩
  · have q := h.cell i a c e1 e2
    have ne : a ≠ p := fun z => (h.fresh n).1 (by rw [← z]; exact List.mem_of_getElem? e1)
    cases c with
    | lst ps =>
      obtain ⟨vs, z, e, t⟩ := q
      exact ⟨vs, z, by rw [upd_ne ne]; exact e, t.hide n⟩
    | nst ks =>
      obtain ⟨vs, z, e, t⟩ := q
      exact ⟨vs, z, by rw [upd_ne ne]; exact e, t⟩
    | dct kvs =>
      obtain ⟨vs, z, e, t⟩ := q
      exact ⟨vs, z, by rw [upd_ne ne]; exact e, t.hide n⟩
    | fn =>
      obtain ⟨g, e⟩ := q
      exact ⟨g, by rw [upd_ne ne]; exact e⟩
    | tab x => exact ⟨q.1, tabN_exts q.2 (upd_ne ne) fun b g e => by rw [upd_ne (ne_of_none e n)]; exact e⟩
theorem SR.unhide {as : As} {p : Addr} (h : SR M (as.hide p) H S) (np : ¬ as.hid p) (hp : ∃ vs, H p = some (.lst vs)) : SR M as (del H p) S := by
  refine ⟨h.len, h.nd, fun a ha z => h.apart a ha (.inl z), fun a ha => ?_, fun i a c e1 e2 => ?_⟩
  · obtain ⟨u, e⟩ := h.hidd a (.inl ha)
    exact ⟨u, by rw [del_ne fun z => np (by rw [← z]; exact ha)]; exact e⟩
  · have q := h.cell i a c e1 e2
    have ne : a ≠ p := fun z => h.apart a (List.mem_of_getElem? e1) (.inr z)
    cases c with
    | lst ps =>
      obtain ⟨vs, z, e, t⟩ := q
      exact ⟨vs, z, by rw [del_ne ne]; exact e, t.unhide⟩
    | nst ks =>
      obtain ⟨vs, z, e, t⟩ := q
      exact ⟨vs, z, by rw [del_ne ne]; exact e, t⟩
    | dct kvs =>
      obtain ⟨vs, z, e, t⟩ := q
      exact ⟨vs, z, by rw [del_ne ne]; exact e, t.unhide⟩
    | fn =>
      obtain ⟨g, e⟩ := q
      exact ⟨g, by rw [del_ne ne]; exact e⟩
    | tab x => exact ⟨q.1, tabN_exts q.2 (del_ne ne) fun b g e => by
        rw [del_ne fun z => by
          obtain ⟨vs, hv⟩ := hp
          rw [z, hv] at e
          cases e]
        exact e⟩
theorem Ext.unhide {as as' : As} {p : Addr} {H H' : Hp} {o : HO} (n : H p = none) (np : ¬ as.hid p) (x : Ext (as.hide p) (upd H p o) as' H') : Ext as H ⟨as'.cells, as.hid⟩ (del H' p) ∧ as' = As.hide ⟨as'.cells, as.hid⟩ p ∧ H' p = some o := by
  have e1 : as' = As.hide ⟨as'.cells, as.hid⟩ p := by
    obtain ⟨c, h⟩ := as'
    have := x.hids
    simp only at this
    subst this
    rfl
  refine ⟨⟨x.more, rfl, fun a u e q => ?_, fun a u ha e => ?_, fun a g e => ?_⟩, e1, x.hkeep p o (.inr rfl) upd_same⟩
  · have ne : a ≠ p := ne_of_none e n
    obtain ⟨h1, h2⟩ := x.keep a u (by rw [upd_ne ne]; exact e) ⟨q.1, fun z => z.elim q.2 ne⟩
    rw [e1] at h2
    exact ⟨by rw [del_ne ne]; exact h1, h2.1, q.2⟩
  · have ne : a ≠ p := ne_of_none e n
    rw [del_ne ne]
    exact x.hkeep a u (.inl ha) (by rw [upd_ne ne]; exact e)
  · have ne : a ≠ p := ne_of_none e n
    rw [del_ne ne]
    exact x.exts a g (by rw [upd_ne ne]; exact e)
theorem ER.hide {o : HO} {p : Addr} (n : H p = none) (h : ER M as H σ δ) : ER M (as.hide p) (upd H p o) σ δ := ⟨h.len, fun i d e => by
  obtain ⟨v, q, r⟩ := h.get i d e
  refine ⟨v, q, ?_⟩
  cases d with
  | p x => exact PR.hide n r
  | c n => exact r⟩
/-- the items of a list or a tuple -/
def items : DV → AH → Option (List PV)
  | .p (.tup xs), _ => some xs
  | .p (.lst xs), _ => some xs
  | .p (.fro xs), _ => some xs
  | .c n, S => match S[n]? with
    | some (.lst xs) => some xs
    | _ => none
  | _, _ => none
theorem items_sq {d : DV} {v : V} {xs : List PV} (h : SR M as H S) (r : DVR M as H v d) (e : items d S = some xs) : ∃ a vs, v = .ref a ∧ vs.length ≤ sizeLine ∧ (SqL M.K H a vs ∨ SqT M.K H a vs) ∧ PRs M as H vs xs := by
  cases d with
  | p x =>
    cases x with
    | tup ys => cases e; cases r with | tup h t => exact ⟨_, _, rfl, h.1, .inr h.sq, t⟩
    | lst ys => cases e; cases r with | lst h t => exact ⟨_, _, rfl, h.1, .inl h.sq, t⟩
    | fro ys => cases e; cases r with | fro h t => exact ⟨_, _, rfl, h.1, .inl h.sq, t⟩
    | _ => cases e
  | c n =>
    obtain ⟨a, ea, rfl⟩ := r
    simp only [items] at e
    split at e
    · rename_i ys q
      cases e
      obtain ⟨b, vs, eb, z, hb, t⟩ := h.at q
      rw [ea] at eb; cases eb
      exact ⟨_, _, rfl, z, .inl (.of hb), t⟩
    · cases e
end

section
variable {M : Wd} {as : As} {H : Hp} {S : AH}
/-- the cells in a nest -/
def nitems : DV → AH → Option (List Nat)
  | .c n, S => match S[n]? with
    | some (.nst ks) => some ks
    | _ => none
  | _, _ => none
theorem nitems_sq {d : DV} {v : V} {ks : List Nat} (h : SR M as H S) (r : DVR M as H v d) (e : nitems d S = some ks) : ∃ a vs, v = .ref a ∧ vs.length ≤ sizeLine ∧ H a = some (.lst vs) ∧ KRs as vs ks := by
  cases d with
  | p x => cases e
  | c n =>
    obtain ⟨a, ea, rfl⟩ := r
    simp only [nitems] at e
    split at e
    · rename_i ys q
      cases e
      obtain ⟨b, vs, eb, z, hb, t⟩ := h.atN q
      rw [ea] at eb; cases eb
      exact ⟨_, _, rfl, z, hb, t⟩
    · cases e
theorem KRs.length {vs : List V} {ks : List Nat} (h : KRs as vs ks) : vs.length = ks.length := Paired.length h
theorem KRs.get : ∀ {vs : List V} {ks : List Nat} {i k : Nat}, KRs as vs ks → ks[i]? = some k → ∃ v, vs[i]? = some v ∧ ∃ b, as.cells[k]? = some b ∧ v = .ref b
  | _, _, i, k, .nil, e => by simp at e
  | _, _, 0, k, .cons h _, e => by simp at e; subst e; exact ⟨_, rfl, h⟩
  | _, _, i + 1, k, .cons _ t, e => by
    obtain ⟨v, h1, h2⟩ := KRs.get (i := i) (k := k) t (by simpa using e)
    exact ⟨v, by simpa using h1, h2⟩
theorem KRs.append : ∀ {vs ws : List V} {ks ls : List Nat}, KRs as vs ks → KRs as ws ls → KRs as (vs ++ ws) (ks ++ ls)
  | _, _, _, _, .nil, s => s
  | _, _, _, _, .cons r t, s => .cons r (KRs.append t s)
theorem KRs.set {v : V} {k : Nat} (r : ∃ b, as.cells[k]? = some b ∧ v = .ref b) : ∀ {vs : List V} {ks : List Nat} (i : Nat), KRs as vs ks → KRs as (vs.set i v) (ks.set i k)
  | _, _, _, .nil => .nil
  | _, _, 0, .cons _ t => .cons r t
  | _, _, i + 1, .cons q t => .cons q (KRs.set r i t)
end
/-! ### what is wanted behind a result -/
def ExR (M : Wd) (as : As) (H : Hp) (c : Str) (p : List (Str × PV)) (cls : Value) (dd : Option Addr) : Prop :=
  M.mg c = some cls ∧ (p = [] → dd = none) ∧ (p ≠ [] → ∃ d fs, dd = some d ∧ as.off d ∧ H d = some (.xd fs) ∧ Paired (fun (f : Str × V) (g : Str × PV) => f.1 = g.1 ∧ PR M as H f.2 g.2) fs p)
def WR {α β : Type} (M : Wd) (E : XK) (R : As → Hp → β → α → Prop) (as : As) (H : Hp) (r : Res α) (Q : β → Hp → Prop) : Prop := match r with
  | .ok a S' => ∀ as' H' b, Ext as H as' H' → SR M as' H' S' → R as' H' b a → Q b H'
  | .exc c p S' => ∀ as' H' cls dd, Ext as H as' H' → SR M as' H' S' → ExR M as' H' c p cls dd → E cls dd H'
  | .bad => False
section
variable {α β γ ε : Type} {M : Wd} {E : XK} {R : As → Hp → β → α → Prop} {R2 : As → Hp → ε → γ → Prop} {as as' : As} {H H' : Hp}
theorem WR.later {r : Res α} {Q : β → Hp → Prop} (x : Ext as H as' H') (w : WR M E R as H r Q) : WR M E R as' H' r Q := by
  cases r with
  | ok a S => exact fun as2 H2 b e => w as2 H2 b (x.trans e)
  | exc c p S => exact fun as2 H2 cls dd e => w as2 H2 cls dd (x.trans e)
  | bad => exact w
theorem WR.mono {r : Res α} {Q Q' : β → Hp → Prop} (w : WR M E R as H r Q) (h : ∀ a S as' H' b, r = .ok a S → Ext as H as' H' → SR M as' H' S → R as' H' b a → Q b H' → Q' b H') : WR M E R as H r Q' := by
  cases r with
  | ok a S => exact fun as2 H2 b e s q => h a S as2 H2 b rfl e s q (w as2 H2 b e s q)
  | exc c p S => exact w
  | bad => exact w
theorem WR.bind {r : Res α} {k : α → AH → Res γ} {Q : ε → Hp → Prop} (w : WR M E R2 as H (r.bind k) Q) :
    WR M E R as H r (fun b H1 => ∃ as1 S1 a, r = .ok a S1 ∧ Ext as H as1 H1 ∧ SR M as1 H1 S1 ∧ R as1 H1 b a ∧ WR M E R2 as1 H1 (k a S1) Q) := by
  cases r with
  | ok a S => exact fun as2 H2 b e s q => ⟨as2, S, a, rfl, e, s, q, WR.later e w⟩
  | exc c p S => exact w
  | bad => exact w
theorem WR.pure {a : α} {S : AH} {Q : β → Hp → Prop} (w : WR M E R as H (.ok a S) Q) {b : β} (s : SR M as H S) (r : R as H b a) : Q b H := w as H b (Ext.refl _ _) s r
end
end DL
namespace DL
noncomputable section
open PySem PySem.Spec PyProof.Rows L2

/-! ### judgements -/
abbrev wd (X : Cx) : Wd := ⟨X.K, X.mg⟩
def RB {β : Type} : As → Hp → β → β → Prop := fun _ _ a b => a = b
def tD (M : Wd) (E : L2.St → XK) (f : Sig → AH → Res DV) : TE := fun σ H Q => ∃ as δ S, SR M as H S ∧ ER M as H σ δ ∧ WR M (E σ) (DVR M) as H (f δ S) Q
def tDT (M : Wd) (E : L2.St → XK) (f : Sig → AH → Res Bool) : TT := fun σ H Q => ∃ as δ S, SR M as H S ∧ ER M as H σ δ ∧ WR M (E σ) RB as H (f δ S) Q
def tDA (M : Wd) (E : L2.St → XK) (f : Sig → AH → Res (List DV)) : TA := fun σ H Q => ∃ as δ S, SR M as H S ∧ ER M as H σ δ ∧ WR M (E σ) (DVRs M) as H (f δ S) Q
abbrev DE (X : Cx) (E : L2.St → XK) (e : Expr) (f : Sig → AH → Res DV) : Prop := PE X e (tD (wd X) E f)
abbrev DT (X : Cx) (E : L2.St → XK) (e : Expr) (f : Sig → AH → Res Bool) : Prop := PT X e (tDT (wd X) E f)
abbrev DW (X : Cx) (E : L2.St → XK) (e : Expr) (f : Sig → AH → Res Bool) : Prop := PW X e (tDT (wd X) E f)
abbrev DA (X : Cx) (E : L2.St → XK) (es : List Expr) (f : Sig → AH → Res (List DV)) : Prop := PA X es (tDA (wd X) E f)
theorem _root_.L2.PE.imp {X : Cx} {e : Expr} {t t' : TE} (h : PE X e t) (i : ∀ σ H Q, t' σ H Q → t σ H Q) : PE X e t' := ⟨fun pins s σ H Q I q => h.run pins s σ H Q I (i σ H Q q)⟩
theorem _root_.L2.PT.imp {X : Cx} {e : Expr} {t t' : TT} (h : PT X e t) (i : ∀ σ H Q, t' σ H Q → t σ H Q) : PT X e t' := ⟨fun pins s σ H Q I q => h.run pins s σ H Q I (i σ H Q q)⟩
theorem _root_.L2.PW.imp {X : Cx} {e : Expr} {t t' : TT} (h : PW X e t) (i : ∀ σ H Q, t' σ H Q → t σ H Q) : PW X e t' := ⟨fun wh pins s σ H Q I q => h.run wh pins s σ H Q I (i σ H Q q)⟩
theorem _root_.L2.PA.imp {X : Cx} {e : List Expr} {t t' : TA} (h : PA X e t) (i : ∀ σ H Q, t' σ H Q → t σ H Q) : PA X e t' := ⟨fun pos pins s σ H Q I q => h.run pos pins s σ H Q I (i σ H Q q)⟩

/-! ### operations on values -/
abbrev Op1 := DV → AH → Option (DV × AH)
abbrev Op2 := DV → DV → AH → Option (DV × AH)
abbrev OpN := List DV → AH → Option (DV × AH)
def lift {α : Type} : Option (α × AH) → Res α
  | some (d, S) => .ok d S
  | none => .bad
@[simp] theorem lift_some {α : Type} (d : α) (S : AH) : lift (some (d, S)) = .ok d S := rfl
@[simp] theorem lift_none {α : Type} : lift (none : Option (α × AH)) = .bad := rfl
def WO (M : Wd) (as : As) (H : Hp) (r : Option (DV × AH)) (Q : VK) : Prop := match r with
  | some (d, S') => ∀ as' H' b, Ext as H as' H' → SR M as' H' S' → DVR M as' H' b d → Q b H'
  | none => False
theorem WR.wo {M : Wd} {E : XK} {as : As} {H : Hp} {r : Option (DV × AH)} {Q : VK} (w : WR M E (DVR M) as H (lift r) Q) : WO M as H r Q := by
  cases r with
  | some p => exact w
  | none => exact w
def rO (M : Wd) (o : Op2) : R2 := fun x y H Q => ∃ as S d1 d2, SR M as H S ∧ DVR M as H x d1 ∧ DVR M as H y d2 ∧ WO M as H (o d1 d2 S) Q
def rO1 (M : Wd) (o : Op1) : V → Hp → VK → Prop := fun x H Q => ∃ as S d1, SR M as H S ∧ DVR M as H x d1 ∧ WO M as H (o d1 S) Q
def rON (M : Wd) (o : OpN) : List V → Hp → VK → Prop := fun vs H Q => ∃ as S ds, SR M as H S ∧ DVRs M as H vs ds ∧ WO M as H (o ds S) Q
/-- a value without a new object -/
theorem WO.here {M : Wd} {as : As} {H : Hp} {S : AH} {d : DV} {Q : VK} {v : V} (w : WO M as H (some (d, S)) Q) (s : SR M as H S) (r : DVR M as H v d) : Q v H := w as H v (Ext.refl _ _) s r
theorem WO.tup {M : Wd} {as : As} {H : Hp} {S : AH} {ps : List PV} {vs : List V} {Q : VK} (w : WO M as H (some (.p (.tup ps), S)) Q) (s : SR M as H S) (z : vs.length ≤ sizeLine) (r : PRs M as H vs ps) : NewT H Q vs := fun p o n d =>
  w as _ _ (ext_new s n) (s.new n) (.tup ⟨z, .inl ⟨⟨o, d, upd_same⟩, s.fresh n⟩⟩ (r.mono (ext_new s n).w))
theorem WO.lst {M : Wd} {as : As} {H : Hp} {S : AH} {ps : List PV} {vs : List V} {Q : VK} {p : Addr} (w : WO M as H (some (.p (.lst ps), S)) Q) (s : SR M as H S) (z : vs.length ≤ sizeLine) (r : PRs M as H vs ps) (n : H p = none) : Q (.ref p) (upd H p (.lst vs)) :=
  w as _ _ (ext_new s n) (s.new n) (.lst ⟨z, upd_same, s.fresh n⟩ (r.mono (ext_new s n).w))
/-- the items of a list -/
def lstOf : DV → AH → Option (List PV)
  | .p (.lst xs), _ => some xs
  | .c n, S => match S[n]? with
    | some (.lst xs) => some xs
    | _ => none
  | _, _ => none
theorem lstOf_at {M : Wd} {as : As} {H : Hp} {S : AH} {d : DV} {v : V} {xs : List PV} (h : SR M as H S) (r : DVR M as H v d) (e : lstOf d S = some xs) : ∃ a vs, v = .ref a ∧ vs.length ≤ sizeLine ∧ H a = some (.lst vs) ∧ PRs M as H vs xs := by
  cases d with
  | p x =>
    cases x with
    | lst ys => cases e; cases r with | lst h t => exact ⟨_, _, rfl, h.1, h.2.1, t⟩
    | _ => cases e
  | c n =>
    obtain ⟨a, ea, rfl⟩ := r
    simp only [lstOf] at e
    split at e
    · rename_i ys q
      cases e
      obtain ⟨b, vs, eb, z, hb, t⟩ := h.at q
      rw [ea] at eb; cases eb
      exact ⟨_, _, rfl, z, hb, t⟩
    · cases e
def addO : Op2 := fun a b S => match a, b with
  | .p (.int i), .p (.int j) => some (.p (.int (i + j)), S)
  | .p (.str x), .p (.str y) => if x.length + y.length ≤ sizeLine then some (.p (.str (x ++ y)), S) else none
  | .p (.tup xs), .p (.tup ys) => if xs.length + ys.length ≤ sizeLine then some (.p (.tup (xs ++ ys)), S) else none
  | _, _ => match lstOf a S, lstOf b S with
    | some xs, some ys => if xs.length + ys.length ≤ sizeLine then some (.p (.lst (xs ++ ys)), S) else none
    | _, _ => none
def subO : Op2 := fun a b S => match a, b with
  | .p (.int i), .p (.int j) => some (.p (.int (i - j)), S)
  | _, _ => none
def mulOk (i j : Int) : Prop := ((-(2 ^ 64) < i ∧ i < 2 ^ 64) ∨ (-(2 ^ 64) < j ∧ j < 2 ^ 64)) ∨ i.natAbs.log2 + j.natAbs.log2 < 1000000
noncomputable instance (i j : Int) : Decidable (mulOk i j) := Classical.propDecidable _
def mulO : Op2 := fun a b S => match a, b with
  | .p (.int i), .p (.int j) => if mulOk i j then some (.p (.int (i * j)), S) else none
  | .p (.tup xs), .p (.int k) => if xs ≠ [] ∧ 2 ≤ k ∧ k ≤ 1000 ∧ xs.length ≤ 1000 then some (.p (.tup (List.replicate k.toNat xs).flatten), S) else none
  | _, _ => none
def divOk (j : Int) : Prop := 0 < j ∧ j.natAbs.log2 < 9000
noncomputable instance (j : Int) : Decidable (divOk j) := Classical.propDecidable _
def divO : Op2 := fun a b S => match a, b with
  | .p (.int i), .p (.int j) => if divOk j then some (.p (.int (i / j)), S) else none
  | _, _ => none
def modO : Op2 := fun a b S => match a, b with
  | .p (.int i), .p (.int j) => if 0 < j then some (.p (.int (i % j)), S) else none
  | _, _ => none
def powOk (i j : Int) : Prop := 0 ≤ j ∧ j ≤ 1000000 ∧ i.natAbs < 2 ^ 64
noncomputable instance (i j : Int) : Decidable (powOk i j) := Classical.propDecidable _
def powO : Op2 := fun a b S => match a, b with
  | .p (.int i), .p (.int j) => if powOk i j then some (.p (.int (i ^ j.toNat)), S) else none
  | _, _ => none
section
variable {X : Cx}
theorem ow_add : OpR X (binaryOp .Add) (rO (wd X) addO) := by
  intro pins s σ H x y v u Q I rx ry h
  obtain ⟨as, S, d1, d2, sr, r1, r2, w⟩ := h
  unfold addO at w
  split at w
  · cases r1; cases r2
    exact op_add pins s σ H _ _ v u Q I rx ry ⟨_, _, rfl, rfl, w.here sr (.int _)⟩
  · cases r1; cases r2
    split at w
    · rename_i z
      exact op_add_str pins s σ H _ _ v u Q I rx ry ⟨_, _, rfl, rfl, z, w.here sr (.str _)⟩
    · exact w.elim
  · cases r1 with
    | tup h1 t1 =>
      cases r2 with
      | tup h2 t2 =>
        split at w
        · rename_i z
          have z2 : _ ≤ _ := z
          rw [← t1.length, ← t2.length] at z2
          refine op_catZ pins s σ H _ _ v u Q I rx ry ⟨_, _, _, _, rfl, rfl, h1.sq, h2.sq, z2, fun e => ?_, fun e e2 => ?_, fun e e2 => ?_⟩
          · subst e
            cases t1
            exact w.here sr (.tup h2 t2)
          · subst e2
            cases t2
            rw [List.append_nil] at w
            exact w.here sr (.tup h1 t1)
          · exact w.tup sr (by rw [List.length_append]; exact z2) (t1.append t2)
        · exact w.elim
  · split at w
    · rename_i xs ys e1 e2
      obtain ⟨a, vs, rfl, z1, h1, t1⟩ := lstOf_at sr r1 e1
      obtain ⟨b, ws, rfl, z2, h2, t2⟩ := lstOf_at sr r2 e2
      split at w
      · rename_i z
        rw [← t1.length, ← t2.length] at z
        exact op_cat pins s σ H _ _ v u Q I rx ry ⟨_, _, _, _, rfl, rfl, h1, h2, z, fun p n => w.lst sr (by rw [List.length_append]; exact z) (t1.append t2) n⟩
      · exact w.elim
    · exact w.elim
theorem ow_sub : OpR X (binaryOp .Sub) (rO (wd X) subO) := by
  intro pins s σ H x y v u Q I rx ry h
  obtain ⟨as, S, d1, d2, sr, r1, r2, w⟩ := h
  unfold subO at w
  split at w
  · cases r1; cases r2
    exact op_sub pins s σ H _ _ v u Q I rx ry ⟨_, _, rfl, rfl, w.here sr (.int _)⟩
  · exact w.elim
theorem PRs.rep {M : Wd} {as : As} {H : Hp} {vs : List V} {ps : List PV} (h : PRs M as H vs ps) : ∀ k : Nat, PRs M as H (List.replicate k vs).flatten (List.replicate k ps).flatten
  | 0 => .nil
  | k + 1 => by
    rw [List.replicate_succ, List.replicate_succ, List.flatten_cons, List.flatten_cons]
    exact PRs.append h (PRs.rep h k)
theorem ow_mul : OpR X (binaryOp .Mult) (rO (wd X) mulO) := by
  intro pins s σ H x y v u Q I rx ry h
  obtain ⟨as, S, d1, d2, sr, r1, r2, w⟩ := h
  unfold mulO at w
  split at w
  · cases r1; cases r2
    split at w
    · rename_i z
      rcases z with z | z
      · exact op_mul pins s σ H _ _ v u Q I rx ry ⟨_, _, rfl, rfl, z, w.here sr (.int _)⟩
      · exact op_mulW pins s σ H _ _ v u Q I rx ry ⟨_, _, rfl, rfl, z, w.here sr (.int _)⟩
    · exact w.elim
  · cases r2
    cases r1 with
    | tup h1 t1 =>
      split at w
      · rename_i z
        obtain ⟨z1, z2, z3, z4⟩ := z
        have hl := t1.length
        refine op_repZ pins s σ H _ _ v u Q I rx ry ⟨_, _, _, rfl, rfl, h1.sq, fun e => ?_, z2, z3, by omega, w.tup sr ?_ (t1.rep _)⟩
        · subst e
          cases t1
          exact z1 rfl
        · rw [PyProof.Rows.lm_len_rep_flat, sizeLine_eq]
          refine Nat.le_trans (m := 1000 * 1000) (Nat.mul_le_mul ?_ ?_) (by decide)
          · omega
          · omega
      · exact w.elim
  · exact w.elim
theorem ow_div : OpR X (binaryOp .FloorDiv) (rO (wd X) divO) := by
  intro pins s σ H x y v u Q I rx ry h
  obtain ⟨as, S, d1, d2, sr, r1, r2, w⟩ := h
  unfold divO at w
  split at w
  · cases r1; cases r2
    split at w
    · rename_i z
      exact op_fdivW pins s σ H _ _ v u Q I rx ry ⟨_, _, rfl, rfl, z, w.here sr (.int _)⟩
    · exact w.elim
  · exact w.elim
theorem ow_mod : OpR X (binaryOp .Mod) (rO (wd X) modO) := by
  intro pins s σ H x y v u Q I rx ry h
  obtain ⟨as, S, d1, d2, sr, r1, r2, w⟩ := h
  unfold modO at w
  split at w
  · cases r1; cases r2
    split at w
    · rename_i z
      exact op_mod pins s σ H _ _ v u Q I rx ry ⟨_, _, rfl, rfl, z, w.here sr (.int _)⟩
    · exact w.elim
  · exact w.elim
theorem ow_pow : OpR X (binaryOp .Pow) (rO (wd X) powO) := by
  intro pins s σ H x y v u Q I rx ry h
  obtain ⟨as, S, d1, d2, sr, r1, r2, w⟩ := h
  unfold powO at w
  split at w
  · cases r1; cases r2
    split at w
    · rename_i z
      exact op_pow pins s σ H _ _ v u Q I rx ry ⟨_, _, rfl, rfl, z, w.here sr (.int _)⟩
    · exact w.elim
  · exact w.elim
def negO : Op1 := fun a S => match a with
  | .p (.int i) => some (.p (.int (-i)), S)
  | _ => none
theorem ow_neg : UnR X (unaryOp .USub) (rO1 (wd X) negO) := by
  intro pins s σ H x v Q I rx h
  obtain ⟨as, S, d1, sr, r1, w⟩ := h
  unfold negO at w
  split at w
  · cases r1
    exact un_neg pins s σ H _ v Q I rx ⟨_, rfl, w.here sr (.int _)⟩
  · exact w.elim
end

/-! ### comparisons -/
def cmpO (p : Int → Int → Bool) : Op2 := fun a b S => match a, b with
  | .p (.int i), .p (.int j) => some (.p (.bl (p i j)), S)
  | _, _ => none
mutual
/-- a value as data -/
def PV.data : PV → Option PyData
  | .non => some .none
  | .bl b => some (.bool b)
  | .int i => some (.int i)
  | .str x => some (.str x)
  | .tup xs => (PV.datas xs).map .tuple
  | .lst xs => (PV.datas xs).map .list
  | .fro xs => (PV.datas xs).map .list
  | .glob _ => none
def PV.datas : List PV → Option (List PyData)
  | [] => some []
  | x :: xs => (PV.data x).bind fun d => (PV.datas xs).map fun ds => d :: ds
end
def eqDat (d e : PyData) : Option Bool := if SeqAt.shaped d = true ∧ SeqAt.shaped e = true then some (PyData.eqv d e) else none
def dataOf : DV → AH → Option PyData
  | .p x, _ => x.data
  | .c n, S => match S[n]? with
    | some (.lst xs) => (PV.datas xs).map .list
    | _ => none
def eqO : Op2 := fun a b S => match dataOf a S, dataOf b S with
  | some d, some e => (eqDat d e).map fun k => (.p (.bl k), S)
  | _, _ => none
def neO : Op2 := fun a b S => match dataOf a S, dataOf b S with
  | some d, some e => (eqDat d e).map fun k => (.p (.bl (!k)), S)
  | _, _ => none
def isO : Op2 := fun a b S => match a, b with
  | .p x, .p .non => match x with
    | .non => some (.p (.bl true), S)
    | .glob _ => none
    | _ => some (.p (.bl false), S)
  | .p (.bl a), .p (.bl b) => some (.p (.bl (decide (a = b))), S)
  | _, _ => none
def isNotO : Op2 := fun a b S => match a, b with
  | .p x, .p .non => match x with
    | .non => some (.p (.bl false), S)
    | .glob _ => none
    | _ => some (.p (.bl true), S)
  | .p (.bl a), .p (.bl b) => some (.p (.bl (!decide (a = b))), S)
  | _, _ => none
section
variable {X : Cx}
theorem ow_cmp {op : CmpOp} {p : Int → Int → Bool} (h0 : OpR X (compareOp op) (rI0 fun i j => .bl (p i j))) : OpR X (compareOp op) (rO (wd X) (cmpO p)) := by
  intro pins s σ H x y v u Q I rx ry h
  obtain ⟨as, S, d1, d2, sr, r1, r2, w⟩ := h
  unfold cmpO at w
  split at w
  · cases r1; cases r2
    exact h0 pins s σ H _ _ v u Q I rx ry ⟨_, _, rfl, rfl, w.here sr (.bl _)⟩
  · exact w.elim
theorem ow_lt : OpR X (compareOp .Lt) (rO (wd X) (cmpO fun i j => decide (i < j))) := ow_cmp op_lt
theorem ow_le : OpR X (compareOp .LtE) (rO (wd X) (cmpO fun i j => decide (i ≤ j))) := ow_cmp op_le
theorem ow_gt : OpR X (compareOp .Gt) (rO (wd X) (cmpO fun i j => decide (j < i))) := ow_cmp op_gt
theorem ow_ge : OpR X (compareOp .GtE) (rO (wd X) (cmpO fun i j => decide (j ≤ i))) := ow_cmp op_ge
end
section
variable {M : Wd} {as : As} {H : Hp}
mutual
theorem PR.dp : ∀ {v : V} {p : PV} {d : PyData}, PR M as H v p → p.data = some d → Dp M.K H v d
  | _, _, _, .non, e => by simp [PV.data] at e; subst e; exact .non
  | _, _, _, .bl b, e => by simp [PV.data] at e; subst e; exact .bl b
  | _, _, _, .int i, e => by simp [PV.data] at e; subst e; exact .int i
  | _, _, _, .str x, e => by simp [PV.data] at e; subst e; exact .str x
  | _, _, _, .tup h t, e => by
    simp only [PV.data, Option.map_eq_some_iff] at e
    obtain ⟨ds, e1, rfl⟩ := e
    exact .tup h.sq (PRs.dp t e1)
  | _, _, _, .lst h t, e => by
    simp only [PV.data, Option.map_eq_some_iff] at e
    obtain ⟨ds, e1, rfl⟩ := e
    exact .lst h.sq (PRs.dp t e1)
  | _, _, _, .fro h t, e => by
    simp only [PV.data, Option.map_eq_some_iff] at e
    obtain ⟨ds, e1, rfl⟩ := e
    exact .lst h.sq (PRs.dp t e1)
  | _, _, _, .glob _ _, e => by simp [PV.data] at e
theorem PRs.dp : ∀ {vs : List V} {ps : List PV} {ds : List PyData}, PRs M as H vs ps → PV.datas ps = some ds → DpAll M.K H vs ds
  | _, _, _, .nil, e => by simp [PV.datas] at e; subst e; exact .nil
  | _, _, _, .cons h t, e => by
    simp only [PV.datas, Option.bind_eq_some_iff, Option.map_eq_some_iff] at e
    obtain ⟨d, e1, ds, e2, rfl⟩ := e
    exact .cons (PR.dp h e1) (PRs.dp t e2)
end
theorem dataOf_dp {S : AH} (sr : SR M as H S) {v : V} {d : DV} {x : PyData} (r : DVR M as H v d) (e : dataOf d S = some x) : Dp M.K H v x := by
  cases d with
  | p y => exact PR.dp r e
  | c n =>
    obtain ⟨a, ea, rfl⟩ := r
    simp only [dataOf] at e
    split at e
    · rename_i xs q
      obtain ⟨b, vs, eb, z, hb, t⟩ := sr.at q
      rw [ea] at eb; cases eb
      simp only [Option.map_eq_some_iff] at e
      obtain ⟨ds, e1, rfl⟩ := e
      exact .lst (.of hb) (PRs.dp t e1)
    · cases e
end
section
variable {X : Cx}
theorem ow_eq (hu : X.A.units + 64 < cLine) : OpR X (compareOp .Eq) (rO (wd X) eqO) := by
  intro pins s σ H x y v u Q I rx ry h
  obtain ⟨as, S, d1, d2, sr, r1, r2, w⟩ := h
  unfold eqO at w
  split at w
  · rename_i d e q1 q2
    unfold eqDat at w
    split at w
    · rename_i z
      exact op_eqD hu pins s σ H _ _ v u Q I rx ry ⟨d, e, dataOf_dp sr r1 q1, dataOf_dp sr r2 q2, z.1, z.2, w.here sr (.bl _)⟩
    · exact w.elim
  · exact w.elim
theorem ow_ne (hu : X.A.units + 64 < cLine) : OpR X (compareOp .NotEq) (rO (wd X) neO) := by
  intro pins s σ H x y v u Q I rx ry h
  obtain ⟨as, S, d1, d2, sr, r1, r2, w⟩ := h
  unfold neO at w
  split at w
  · rename_i d e q1 q2
    unfold eqDat at w
    split at w
    · rename_i z
      exact op_neD hu pins s σ H _ _ v u Q I rx ry ⟨d, e, dataOf_dp sr r1 q1, dataOf_dp sr r2 q2, z.1, z.2, w.here sr (.bl _)⟩
    · exact w.elim
  · exact w.elim
theorem PR.nonD {M : Wd} {as : As} {H : Hp} {v : V} {p : PV} (r : PR M as H v p) (n1 : p ≠ .non) (n2 : ∀ g, p ≠ .glob g) : v ≠ .non := by
  cases r with
  | non => exact absurd rfl n1
  | glob _ _ => exact absurd rfl (n2 _)
  | _ => exact fun z => nomatch z
theorem ow_is : OpR X (compareOp .Is) (rO (wd X) isO) := by
  intro pins s σ H x y v u Q I rx ry h
  obtain ⟨as, S, d1, d2, sr, r1, r2, w⟩ := h
  unfold isO at w
  split at w
  · cases r2
    split at w
    · cases r1
      exact op_isN pins s σ H _ _ v u Q I rx ry ⟨rfl, w.here sr (.bl _)⟩
    · exact w.elim
    · rename_i n1 n2
      have e := PR.nonD r1 (fun z => n1 z) (fun g z => n2 g z)
      refine op_isN pins s σ H _ _ v u Q I rx ry ⟨rfl, ?_⟩
      rw [decide_eq_false e]
      exact w.here sr (.bl _)
  · cases r1; cases r2
    exact op_isBl pins s σ H _ _ v u Q I rx ry ⟨_, _, rfl, rfl, w.here sr (.bl _)⟩
  · exact w.elim
theorem ow_isNot : OpR X (compareOp .IsNot) (rO (wd X) isNotO) := by
  intro pins s σ H x y v u Q I rx ry h
  obtain ⟨as, S, d1, d2, sr, r1, r2, w⟩ := h
  unfold isNotO at w
  split at w
  · cases r2
    split at w
    · cases r1
      exact op_notN pins s σ H _ _ v u Q I rx ry ⟨rfl, w.here sr (.bl _)⟩
    · exact w.elim
    · rename_i n1 n2
      have e := PR.nonD r1 (fun z => n1 z) (fun g z => n2 g z)
      refine op_notN pins s σ H _ _ v u Q I rx ry ⟨rfl, ?_⟩
      rw [decide_eq_false e]
      exact w.here sr (.bl _)
  · cases r1; cases r2
    exact op_notBl pins s σ H _ _ v u Q I rx ry ⟨_, _, rfl, rfl, w.here sr (.bl _)⟩
  · exact w.elim
end

/-! ### expressions -/
def dVar (i : Nat) : Sig → AH → Res DV := fun δ S => match δ[i]? with
  | some (some d) => .ok d S
  | _ => .bad
def dC (v : PV) : Sig → AH → Res DV := fun _ S => .ok (.p v) S
def dUn (o : Op1) (fa : Sig → AH → Res DV) : Sig → AH → Res DV := fun δ S => (fa δ S).bind fun a S => lift (o a S)
def dBin (o : Op2) (fa fb : Sig → AH → Res DV) : Sig → AH → Res DV := fun δ S => (fa δ S).bind fun a S => (fb δ S).bind fun b S => lift (o a b S)
def dNil : Sig → AH → Res (List DV) := fun _ S => .ok [] S
def dCons (fa : Sig → AH → Res DV) (fr : Sig → AH → Res (List DV)) : Sig → AH → Res (List DV) := fun δ S => (fa δ S).bind fun a S => (fr δ S).bind fun r S => .ok (a :: r) S
def dApp (o : OpN) (fa : Sig → AH → Res (List DV)) : Sig → AH → Res DV := fun δ S => (fa δ S).bind fun ds S => lift (o ds S)
section
variable {X : Cx} {E : L2.St → XK} {a b c : Expr} {es : List Expr} {pos : Pos} {fa fb fc : Sig → AH → Res DV} {fs : Sig → AH → Res (List DV)}
theorem de_var (i : Nat) {x : Str} (hN : X.N[i]? = some x := by rfl) (hv : Vis X.env.scope x := by first | exact Or.inl rfl | exact Or.inr (Or.inl rfl) | exact Or.inr (Or.inr rfl)) (hd : (x == ("__debug__" : Str)) = false := by decide)
    (hcd : (x == ("__classdict__" : Str)) = false := by decide) : DE X E (.Name x pos) (dVar i) := (pe_var hN hv hd hcd).imp fun σ H Q ⟨as, δ, S, sr, er, w⟩ => by
  unfold dVar at w
  split at w
  · rename_i d e
    obtain ⟨v, q, r⟩ := er.get i d e
    exact ⟨v, q, w.pure sr r⟩
  · exact w.elim
theorem de_con {v : V} {p : PV} (h : PE X a (tC v)) (r : ∀ as H, PR (wd X) as H v p) : DE X E a (dC p) := h.imp fun σ H Q ⟨as, δ, S, sr, er, w⟩ => WR.pure (b := v) w sr (r as H)
theorem de_int {i j} : DE X E (.Constant (.int i) j pos) (dC (.int i)) := de_con pe_int fun _ _ => .int _
theorem de_bl {i j} : DE X E (.Constant (.bool i) j pos) (dC (.bl i)) := de_con pe_bl fun _ _ => .bl _
theorem de_non {j} : DE X E (.Constant .none j pos) (dC .non) := de_con pe_non fun _ _ => .non
theorem de_str {x j} : DE X E (.Constant (.str x) j pos) (dC (.str x)) := de_con pe_str fun _ _ => .str _
/-- a constant of the module -/
theorem de_gint {x : Str} {i : Int} {t : Tok} (hg : Gl X x) (hm : X.mg x = some (.int i t)) (hd : (x == ("__debug__" : Str)) = false := by decide) : DE X E (.Name x pos) (dC (.int i)) := de_con (pe_glob (v := .int i) hg hm ⟨_, rfl⟩ hd) fun _ _ => .int _
/-- a def or a class of the module as a value -/
theorem de_glob {x : Str} {p : Addr} (hg : Gl X x) (hm : X.mg x = some (.ref p)) (hd : (x == ("__debug__" : Str)) = false := by decide) : DE X E (.Name x pos) (dC (.glob x)) := de_con (pe_glob (v := .ref p) hg hm rfl hd) fun _ _ => .glob hm rfl
theorem de_un {op : UnaryOp} {o : Op1} (ho : UnR X (unaryOp op) (rO1 (wd X) o)) (ha : DE X E a fa) : DE X E (.UnaryOp op a pos) (dUn o fa) := (pe_un ho ha).imp fun σ H Q ⟨as, δ, S, sr, er, w⟩ =>
  ⟨as, δ, S, sr, er, w.bind.mono fun _ _ _ _ _ _ _ _ _ ⟨as1, S1, d1, _, x1, s1, r1, w1⟩ => ⟨as1, S1, d1, s1, r1, w1.wo⟩⟩
theorem t2 {o : Op2} {σ : L2.St} {H : Hp} {Q : VK} {as : As} {δ : Sig} {S : AH} (sr : SR (wd X) as H S) (er : ER (wd X) as H σ δ) (w : WR (wd X) (E σ) (DVR (wd X)) as H (dBin o fa fb δ S) Q) : tOp (rO (wd X) o) (tD (wd X) E fa) (tD (wd X) E fb) σ H Q :=
  ⟨as, δ, S, sr, er, w.bind.mono fun _ _ _ _ _ _ _ _ _ ⟨as1, S1, d1, _, x1, s1, r1, w1⟩ => ⟨as1, δ, S1, s1, er.mono x1.w, w1.bind.mono fun _ _ _ _ _ _ _ _ _ ⟨as2, S2, d2, _, x2, s2, r2, w2⟩ => ⟨as2, S2, d1, d2, s2, r1.mono x2.w, r2, w2.wo⟩⟩⟩
theorem de_bin {op : Operator} {o : Op2} (ho : OpR X (binaryOp op) (rO (wd X) o)) (ha : DE X E a fa) (hb : DE X E b fb) : DE X E (.BinOp a op b pos) (dBin o fa fb) := (pe_op ho ha hb).imp fun σ H Q ⟨as, δ, S, sr, er, w⟩ => t2 sr er w
theorem de_cmp {op : CmpOp} {o : Op2} (ho : OpR X (compareOp op) (rO (wd X) o)) (ha : DE X E a fa) (hb : DE X E b fb) (hm : behindInMarks op b = false) : DE X E (.Compare a [op] [b] pos) (dBin o fa fb) := (pe_cmpR ho ha hb hm).imp fun σ H Q ⟨as, δ, S, sr, er, w⟩ => t2 sr er w
theorem da_nil : DA X E [] dNil := pa_nil.imp fun σ H Q ⟨as, δ, S, sr, er, w⟩ => WR.pure (b := ([] : List V)) w sr .nil
theorem da_cons (ha : DE X E a fa) (hr : DA X E es fs) (hs : starEach (a :: es) X.env = (false, eval a X.env) :: starEach es X.env := by rfl) : DA X E (a :: es) (dCons fa fs) := (pa_cons ha hr hs).imp fun σ H Q ⟨as, δ, S, sr, er, w⟩ =>
  ⟨as, δ, S, sr, er, w.bind.mono fun x _ _ _ _ _ _ _ _ ⟨as1, S1, d1, _, x1, s1, r1, w1⟩ => ⟨as1, δ, S1, s1, er.mono x1.w, w1.bind.mono fun _ _ _ _ _ _ _ _ _ ⟨as2, S2, ds, _, x2, s2, r2, w2⟩ => WR.pure w2 s2 (.cons (r1.mono x2.w) r2)⟩⟩
end
end
end DL
namespace DL
noncomputable section
open PySem PySem.Spec PyProof.Rows L2

/-! ### truth -/
def truD : DV → AH → Option Bool
  | .p .non, _ => some false
  | .p (.bl b), _ => some b
  | .p (.int i), _ => some (i != 0)
  | .p (.str x), _ => if x.length ≤ sizeLine then some ((x.length : Int) != 0) else none
  | d, S => (items d S).map fun xs => !xs.isEmpty
section
variable {M : Wd} {as : As} {H : Hp} {S : AH}
theorem truD_ok {d : DV} {v : V} {k : Bool} (h : SR M as H S) (r : DVR M as H v d) (e : truD d S = some k) : TruV M.K v H k := by
  have gen : ∀ {d : DV} {v : V} {k : Bool}, DVR M as H v d → (items d S).map (fun xs => !xs.isEmpty) = some k → TruV M.K v H k := fun {d v k} r e => by
    simp only [Option.map_eq_some_iff] at e
    obtain ⟨xs, e1, rfl⟩ := e
    obtain ⟨a, vs, rfl, z, q, t⟩ := items_sq h r e1
    have hh : xs.isEmpty = vs.isEmpty := by cases t <;> rfl
    rcases q with q | q
    · exact .inl ⟨vs, q, by rw [hh]⟩
    · exact .inr (.inl ⟨vs, q, by rw [hh]⟩)
  cases d with
  | c n => exact gen r e
  | p x =>
    cases x with
    | non => cases r; simp [truD] at e; subst e; rfl
    | bl b => cases r; simp [truD] at e; subst e; rfl
    | int i => cases r; simp only [truD, Option.some.injEq] at e; subst e; rfl
    | str x =>
      cases r
      simp only [truD] at e
      split at e
      · rename_i z
        cases e
        exact ⟨z, rfl⟩
      · cases e
    | glob n => simp [truD, items] at e
    | tup _ => exact gen r e
    | lst _ => exact gen r e
    | fro _ => exact gen r e
end
def dTru (fa : Sig → AH → Res DV) : Sig → AH → Res Bool := fun δ S => (fa δ S).bind fun a S => lift ((truD a S).map fun k => (k, S))
def dNot (fa : Sig → AH → Res Bool) : Sig → AH → Res Bool := fun δ S => (fa δ S).bind fun a S => .ok (!a) S
def dAnd (fa fb : Sig → AH → Res Bool) : Sig → AH → Res Bool := fun δ S => (fa δ S).bind fun a S => if a = true then fb δ S else .ok false S
def dOr (fa fb : Sig → AH → Res Bool) : Sig → AH → Res Bool := fun δ S => (fa δ S).bind fun a S => if a = true then .ok true S else fb δ S
def dAndV (fa fb : Sig → AH → Res DV) : Sig → AH → Res DV := fun δ S => (fa δ S).bind fun a S => match truD a S with
  | some k => if k = true then fb δ S else .ok a S
  | none => .bad
def dOrV (fa fb : Sig → AH → Res DV) : Sig → AH → Res DV := fun δ S => (fa δ S).bind fun a S => match truD a S with
  | some k => if k = true then .ok a S else fb δ S
  | none => .bad
def dNotV (fa : Sig → AH → Res DV) : Sig → AH → Res DV := fun δ S => (fa δ S).bind fun a S => lift ((truD a S).map fun k => (.p (.bl (!k)), S))
def dIte (fc : Sig → AH → Res Bool) (fa fb : Sig → AH → Res DV) : Sig → AH → Res DV := fun δ S => (fc δ S).bind fun c S => if c = true then fa δ S else fb δ S
/-- a op1 b op2 c -/
def dChain (o o' : Op2) (fa fb fc : Sig → AH → Res DV) : Sig → AH → Res DV := fun δ S => (fa δ S).bind fun a S => (fb δ S).bind fun b S => (lift (o a b S)).bind fun k S => match k with
  | .p (.bl true) => (fc δ S).bind fun c S => lift (o' b c S)
  | .p (.bl false) => .ok (.p (.bl false)) S
  | _ => .bad
def blOf (fa : Sig → AH → Res DV) : Sig → AH → Res Bool := fun δ S => (fa δ S).bind fun a S => match a with
  | .p (.bl k) => .ok k S
  | _ => .bad
section
variable {X : Cx} {E : L2.St → XK} {a b c : Expr} {es rest : List Expr} {pos : Pos} {fa fb fc : Sig → AH → Res DV} {ga gb : Sig → AH → Res Bool} {fs : Sig → AH → Res (List DV)}
theorem dt_tru (ha : DE X E a fa) (he : ∀ whole, isTrue a X.env whole = (do let v ← whole; standAt a.pos; holding [v] (truthy v)) := by intro _; rfl) : DT X E a (dTru fa) := (pt_truth ha he).imp fun σ H Q ⟨as, δ, S, sr, er, w⟩ =>
  ⟨as, δ, S, sr, er, w.bind.mono fun _ _ _ _ _ _ _ _ _ ⟨as1, S1, d1, _, x1, s1, r1, w1⟩ => by
    cases e : truD d1 S1 with
    | none => rw [e] at w1; exact w1.elim
    | some k =>
      rw [e] at w1
      exact ⟨k, truD_ok s1 r1 e, WR.pure (b := k) w1 s1 rfl⟩⟩
theorem dt_cmp {op : CmpOp} {o : Op2} (ho : OpR X (compareOp op) (rO (wd X) o)) (ha : DE X E a fa) (hb : DE X E b fb) (hm : behindInMarks op b = false) : DT X E (.Compare a [op] [b] pos) (blOf (dBin o fa fb)) := (pt_cmpR ho ha hb hm).imp fun σ H Q ⟨as, δ, S, sr, er, w⟩ => by
  refine t2 (Q := fun x H' => ∃ k, x = .bl k ∧ Q k H') sr er (w.bind.mono fun d _ _ _ x _ _ _ _ ⟨as1, S1, d1, _, x1, s1, r1, w1⟩ => ?_)
  split at w1
  · cases r1
    exact ⟨_, rfl, WR.pure (b := _) w1 s1 rfl⟩
  · exact w1.elim
theorem chain_t {o o' : Op2} {σ : L2.St} {H : Hp} {Q : VK} {as : As} {δ : Sig} {S : AH} (sr : SR (wd X) as H S) (er : ER (wd X) as H σ δ) (w : WR (wd X) (E σ) (DVR (wd X)) as H (dChain o o' fa fb fc δ S) Q) : tChain (rO (wd X) o) (rO (wd X) o') (tD (wd X) E fa) (tD (wd X) E fb) (tD (wd X) E fc) σ H Q := by
  refine ⟨as, δ, S, sr, er, w.bind.mono fun _ _ _ _ x _ _ _ _ ⟨as1, S1, d1, _, x1, s1, r1, w1⟩ => ?_⟩
  refine ⟨as1, δ, S1, s1, er.mono x1.w, w1.bind.mono fun _ _ _ _ y _ _ _ _ ⟨as2, S2, d2, _, x2, s2, r2, w2⟩ => ?_⟩
  refine ⟨as2, S2, d1, d2, s2, r1.mono x2.w, r2, ?_⟩
  have w2' := w2.bind (R := DVR (wd X))
  refine (WR.wo (E := E σ) (w2'.mono fun _ _ _ _ z _ _ _ _ ⟨as3, S3, d3, _, x3, s3, r3, w3⟩ => ?_))
  split at w3
  · cases r3
    refine ⟨true, rfl, ?_⟩
    rw [if_pos rfl]
    exact ⟨as3, δ, S3, s3, ((er.mono x1.w).mono x2.w).mono x3.w, w3.bind.mono fun _ _ _ _ _ _ _ _ _ ⟨as4, S4, d4, _, x4, s4, r4, w4⟩ => ⟨as4, S4, d2, d4, s4, (r2.mono x3.w).mono x4.w, r4, w4.wo⟩⟩
  · cases r3
    refine ⟨false, rfl, ?_⟩
    rw [if_neg Bool.false_ne_true]
    exact WR.pure w3 s3 (.bl false)
  · exact w3.elim
theorem de_chain {op op' : CmpOp} {o o' : Op2} (ho : OpR X (compareOp op) (rO (wd X) o)) (ho' : OpR X (compareOp op') (rO (wd X) o')) (ha : DE X E a fa) (hb : DE X E b fb) (hc : DE X E c fc)
    (hm : lastMarks [op, op'] [b, c] = false := by with_unfolding_all rfl) : DE X E (.Compare a [op, op'] [b, c] pos) (dChain o o' fa fb fc) := (pe_chain ho ho' ha hb hc hm).imp fun σ H Q ⟨as, δ, S, sr, er, w⟩ => chain_t sr er w
theorem dt_chain {op op' : CmpOp} {o o' : Op2} (ho : OpR X (compareOp op) (rO (wd X) o)) (ho' : OpR X (compareOp op') (rO (wd X) o')) (ha : DE X E a fa) (hb : DE X E b fb) (hc : DE X E c fc)
    (hm : lastMarks [op, op'] [b, c] = false := by with_unfolding_all rfl) : DT X E (.Compare a [op, op'] [b, c] pos) (blOf (dChain o o' fa fb fc)) := (pt_chain ho ho' ha hb hc hm).imp fun σ H Q ⟨as, δ, S, sr, er, w⟩ => by
  refine chain_t (Q := fun x H' => ∃ k, x = .bl k ∧ Q k H') sr er (w.bind.mono fun d _ _ _ x _ _ _ _ ⟨as1, S1, d1, _, x1, s1, r1, w1⟩ => ?_)
  split at w1
  · cases r1
    exact ⟨_, rfl, WR.pure (b := _) w1 s1 rfl⟩
  · exact w1.elim
theorem dt_not (ha : DT X E a ga) : DT X E (.UnaryOp .Not a pos) (dNot ga) := (pt_not ha).imp fun σ H Q ⟨as, δ, S, sr, er, w⟩ =>
  ⟨as, δ, S, sr, er, w.bind.mono fun _ _ _ _ _ _ _ _ _ ⟨as1, S1, d1, _, x1, s1, r1, w1⟩ => by cases r1; exact WR.pure (b := _) w1 s1 rfl⟩
theorem dw_and1 (ha : DT X E a ga) : DW X E (.BoolOp .And [a] pos) ga := pw_and1 ha
theorem dw_or1 (ha : DT X E a ga) : DW X E (.BoolOp .Or [a] pos) ga := pw_or1 ha
theorem dw_and (ha : DT X E a ga) (hb : DW X E (.BoolOp .And (b :: rest) pos) gb) : DW X E (.BoolOp .And (a :: b :: rest) pos) (dAnd ga gb) := (pw_and ha hb).imp fun σ H Q ⟨as, δ, S, sr, er, w⟩ =>
  ⟨as, δ, S, sr, er, w.bind.mono fun _ _ _ _ k _ _ _ _ ⟨as1, S1, d1, _, x1, s1, r1, w1⟩ => by
    cases r1
    cases k with
    | true => exact ⟨as1, δ, S1, s1, er.mono x1.w, w1⟩
    | false => exact WR.pure (b := _) w1 s1 rfl⟩
theorem dw_or (ha : DT X E a ga) (hb : DW X E (.BoolOp .Or (b :: rest) pos) gb) : DW X E (.BoolOp .Or (a :: b :: rest) pos) (dOr ga gb) := (pw_or ha hb).imp fun σ H Q ⟨as, δ, S, sr, er, w⟩ =>
  ⟨as, δ, S, sr, er, w.bind.mono fun _ _ _ _ k _ _ _ _ ⟨as1, S1, d1, _, x1, s1, r1, w1⟩ => by
    cases r1
    cases k with
    | true => exact WR.pure (b := _) w1 s1 rfl
    | false => exact ⟨as1, δ, S1, s1, er.mono x1.w, w1⟩⟩
theorem dt_w (h : DW X E a ga) : DT X E a ga := h.pt
theorem de_one {op : BoolOp} (ha : DE X E a fa) : DE X E (.BoolOp op [a] pos) fa := pe_one ha
theorem de_and (ha : DE X E a fa) (hb : DE X E (.BoolOp .And (b :: rest) pos) fb) : DE X E (.BoolOp .And (a :: b :: rest) pos) (dAndV fa fb) := (pe_andT ha hb).imp fun σ H Q ⟨as, δ, S, sr, er, w⟩ =>
  ⟨as, δ, S, sr, er, w.bind.mono fun _ _ _ _ _ _ _ _ _ ⟨as1, S1, d1, _, x1, s1, r1, w1⟩ => by
    split at w1
    · rename_i k e
      refine ⟨k, truD_ok s1 r1 e, ?_⟩
      split at w1
      · rename_i z
        rw [if_pos z]
        exact ⟨as1, δ, S1, s1, er.mono x1.w, w1⟩
      · rename_i z
        rw [if_neg z]
        exact WR.pure w1 s1 r1
    · exact w1.elim⟩
theorem de_or (ha : DE X E a fa) (hb : DE X E (.BoolOp .Or (b :: rest) pos) fb) : DE X E (.BoolOp .Or (a :: b :: rest) pos) (dOrV fa fb) := (pe_orT ha hb).imp fun σ H Q ⟨as, δ, S, sr, er, w⟩ =>
  ⟨as, δ, S, sr, er, w.bind.mono fun _ _ _ _ _ _ _ _ _ ⟨as1, S1, d1, _, x1, s1, r1, w1⟩ => by
    split at w1
    · rename_i k e
      refine ⟨k, truD_ok s1 r1 e, ?_⟩
      split at w1
      · rename_i z
        rw [if_pos z]
        exact WR.pure w1 s1 r1
      · rename_i z
        rw [if_neg z]
        exact ⟨as1, δ, S1, s1, er.mono x1.w, w1⟩
    · exact w1.elim⟩
theorem de_not (ha : DE X E a fa) : DE X E (.UnaryOp .Not a pos) (dNotV fa) := (pe_notT ha).imp fun σ H Q ⟨as, δ, S, sr, er, w⟩ =>
  ⟨as, δ, S, sr, er, w.bind.mono fun _ _ _ _ _ _ _ _ _ ⟨as1, S1, d1, _, x1, s1, r1, w1⟩ => by
    cases e : truD d1 S1 with
    | none => rw [e] at w1; exact w1.elim
    | some k =>
      rw [e] at w1
      exact ⟨k, truD_ok s1 r1 e, WR.pure w1 s1 (.bl _)⟩⟩
theorem de_ite (hc : DT X E c ga) (ha : DE X E a fa) (hb : DE X E b fb) : DE X E (.IfExp c a b pos) (dIte ga fa fb) := (pe_ifExp hc ha hb).imp fun σ H Q ⟨as, δ, S, sr, er, w⟩ =>
  ⟨as, δ, S, sr, er, w.bind.mono fun _ _ _ _ k _ _ _ _ ⟨as1, S1, d1, _, x1, s1, r1, w1⟩ => by
    cases r1
    cases k with
    | true => exact ⟨as1, δ, S1, s1, er.mono x1.w, w1⟩
    | false => exact ⟨as1, δ, S1, s1, er.mono x1.w, w1⟩⟩
end

/-! ### displays -/
def pvs : List DV → Option (List PV)
  | [] => some []
  | .p x :: r => (pvs r).map fun t => x :: t
  | .c _ :: _ => none
theorem pvs_ok {M : Wd} {as : As} {H : Hp} : ∀ {ds : List DV} {vs : List V} {ps : List PV}, DVRs M as H vs ds → pvs ds = some ps → PRs M as H vs ps
  | [], _, _, .nil, e => by cases e; exact .nil
  | .p x :: r, _, _, .cons h t, e => by
    simp only [pvs, Option.map_eq_some_iff] at e
    obtain ⟨qs, e1, rfl⟩ := e
    exact .cons h (pvs_ok t e1)
  | .c _ :: _, _, _, _, e => by cases e
def dTup (fs : Sig → AH → Res (List DV)) : Sig → AH → Res DV := fun δ S => (fs δ S).bind fun ds S => match pvs ds with
  | some ps => if ps.length ≤ 1000 then .ok (.p (.tup ps)) S else .bad
  | none => .bad
def dLst (fs : Sig → AH → Res (List DV)) : Sig → AH → Res (List PV) := fun δ S => (fs δ S).bind fun ds S => match pvs ds with
  | some ps => if ps.length ≤ 1000 then .ok ps S else .bad
  | none => .bad
theorem le1000 {n : Nat} (h : n ≤ 1000) : n ≤ sizeLine := Nat.le_trans h (by decide)
/-- a new list -/
def WF (M : Wd) (E : XK) (as : As) (H : Hp) (r : Res (List PV)) (Q : VK) : Prop := match r with
  | .ok ps S' => ∀ as' H' p vs, Ext as H as' H' → SR M as' H' S' → vs.length ≤ sizeLine → PRs M as' H' vs ps → H' p = none → Q (.ref p) (upd H' p (.lst vs))
  | .exc c p S' => ∀ as' H' cls dd, Ext as H as' H' → SR M as' H' S' → ExR M as' H' c p cls dd → E cls dd H'
  | .bad => False
def tF (M : Wd) (E : L2.St → XK) (f : Sig → AH → Res (List PV)) : TE := fun σ H Q => ∃ as δ S, SR M as H S ∧ ER M as H σ δ ∧ WF M (E σ) as H (f δ S) Q
abbrev FE (X : Cx) (E : L2.St → XK) (e : Expr) (f : Sig → AH → Res (List PV)) : Prop := PE X e (tF (wd X) E f)
def dVal (f : Sig → AH → Res (List PV)) : Sig → AH → Res DV := fun δ S => (f δ S).bind fun ps S => .ok (.p (.lst ps)) S
def dCell (f : Sig → AH → Res (List PV)) : Sig → AH → Res DV := fun δ S => (f δ S).bind fun ps S => .ok (.c S.length) (S ++ [.lst ps])
section
variable {M : Wd} {E0 : XK} {as as' : As} {H H' : Hp} {α β : Type} {R : As → Hp → β → α → Prop}
theorem WF.later {r : Res (List PV)} {Q : VK} (x : Ext as H as' H') (w : WF M E0 as H r Q) : WF M E0 as' H' r Q := by
  cases r with
  | ok a S => exact fun as2 H2 p vs e => w as2 H2 p vs (x.trans e)
  | exc c p S => exact fun as2 H2 cls dd e => w as2 H2 cls dd (x.trans e)
  | bad => exact w
theorem WF.bind {r : Res α} {k : α → AH → Res (List PV)} {Q : VK} (w : WF M E0 as H (r.bind k) Q) :
    WR M E0 R as H r (fun b H1 => ∃ as1 S1 a, r = .ok a S1 ∧ Ext as H as1 H1 ∧ SR M as1 H1 S1 ∧ R as1 H1 b a ∧ WF M E0 as1 H1 (k a S1) Q) := by
  cases r with
  | ok a S => exact fun as2 H2 b e s q => ⟨as2, S, a, rfl, e, s, q, WF.later e w⟩
  | exc c p S => exact w
  | bad => exact w
theorem WF.here {S : AH} {ps : List PV} {Q : VK} {p : Addr} {vs : List V} (w : WF M E0 as H (.ok ps S) Q) (s : SR M as H S) (z : vs.length ≤ sizeLine) (r : PRs M as H vs ps) (n : H p = none) : Q (.ref p) (upd H p (.lst vs)) := w as H p vs (Ext.refl _ _) s z r n
/-- from a value's or a cell's reading -/
theorem WF.val {r : Res (List PV)} {Q : VK} (w : WR M E0 (DVR M) as H (r.bind fun ps S => .ok (.p (.lst ps)) S) Q) : WF M E0 as H r Q := by
  cases r with
  | ok ps S => exact fun as2 H2 p vs e s z t n => w as2 _ _ (e.trans (ext_new s n)) (s.new n) (PR.lst ⟨z, upd_same, s.fresh n⟩ (t.mono (ext_new s n).w))
  | exc c p S => exact w
  | bad => exact w
theorem WF.cell {r : Res (List PV)} {Q : VK} (w : WR M E0 (DVR M) as H (r.bind fun ps S => .ok (.c S.length) (S ++ [.lst ps])) Q) : WF M E0 as H r Q := by
  cases r with
  | ok ps S => exact fun as2 H2 p vs e s z t n => w (as2.add p) _ _ (e.trans (ext_cell s n)) (s.newCell n z t) ⟨p, by rw [← s.len]; simp [As.add], rfl⟩
  | exc c p S => exact w
  | bad => exact w
end
section
variable {X : Cx} {E : L2.St → XK} {e a b c : Expr} {es rest : List Expr} {pos : Pos} {fa fb fc : Sig → AH → Res DV} {fs : Sig → AH → Res (List DV)} {f : Sig → AH → Res (List PV)}
theorem de_val (h : FE X E e f) : DE X E e (dVal f) := h.imp fun σ H Q ⟨as, δ, S, sr, er, w⟩ => ⟨as, δ, S, sr, er, WF.val w⟩
theorem de_cell (h : FE X E e f) : DE X E e (dCell f) := h.imp fun σ H Q ⟨as, δ, S, sr, er, w⟩ => ⟨as, δ, S, sr, er, WF.cell w⟩
theorem de_tup {k} (h : DA X E es fs) : DE X E (.Tuple es k pos) (dTup fs) := (pe_tupZ h).imp fun σ H Q ⟨as, δ, S, sr, er, w⟩ =>
  ⟨as, δ, S, sr, er, w.bind.mono fun _ _ _ _ vs _ _ _ _ ⟨as1, S1, d1, _, x1, s1, r1, w1⟩ => by
    split at w1
    · rename_i ps e
      have t := pvs_ok r1 e
      split at w1
      · rename_i z
        have z2 : vs.length ≤ sizeLine := by rw [t.length]; exact le1000 z
        exact ⟨z2, WO.tup (ps := ps) (S := S1) (fun as' H' b => w1 as' H' b) s1 z2 t⟩
      · exact w1.elim
    · exact w1.elim⟩
theorem fe_lst (h : DA X E es fs) : FE X E (.List es pos) (dLst fs) := (pe_lst h).imp fun σ H Q ⟨as, δ, S, sr, er, w⟩ =>
  ⟨as, δ, S, sr, er, (WF.bind w).mono fun _ _ _ _ vs _ _ _ _ ⟨as1, S1, d1, _, x1, s1, r1, w1⟩ => by
    split at w1
    · rename_i ps e
      have t := pvs_ok r1 e
      split at w1
      · rename_i z
        have z2 : vs.length ≤ sizeLine := by rw [t.length]; exact le1000 z
        exact ⟨z2, fun p n => w1.here s1 z2 t n⟩
      · exact w1.elim
    · exact w1.elim⟩
end
end
end DL
namespace SrtT
open PySem PyProof.Rows Srt SrtO
variable {prog : Program} {w : World} {A : Around} {E : Value → Shared → Prop} {s : Shared}
/-- the items of a tuple, gathered -/
theorem gather_tup {tp : Addr} {us : List Value} {R : List Value → Shared → Prop} (ht : IsTup s.heap tp us.toArray)
    (h : R us { s with heap := (s.heap.push (seqObj "list" #[] 0)).update s.heap.objs.size (Obj.mapSeq (· ++ us.toArray)) }) (hz : us.length ≤ sizeLine) :
    wpAny (model prog w) A (collect (.ref tp)) R E s := by
  obtain ⟨ob, g1, g2, m, g3⟩ := id ht
  unfold collect
  refine wpAny_bind (wpAny_runValue (codeAny_builtin entry_proto_collect' ?_)); show wpAny _ _ (do again (.builtin "list.__iadd__" ⟨[← newList [], .ref tp], []⟩)) _ _ s
  refine wpAny_bind (wpAny_newList (wpAny_pure ⟨Code.quiet_builtin _ (by decide +kernel), codeAny_builtin entry_list_iadd' ?_⟩)); show wpAny _ _ (Builtin.List.listExtendWith (.ref s.heap.objs.size) (.ref tp) (.ref s.heap.objs.size)) _ _ { s with heap := s.heap.push (seqObj "list" #[] 0) }
  unfold Builtin.List.listExtendWith
  have g1' : (s.heap.push (seqObj "list" #[] 0)).get? tp = some ob := Heap.get?_push_of_some _ g1
  refine wpAny_bind (wpAny_typeOf (T := "tuple") ⟨ob, g1', g2⟩ ?_)
  have ty : (Value.type "tuple" == Value.type "tuple") = true := by rfl
  rw [if_pos (by rw [ty]; simp)]
  refine wpAny_bind (listItems_at g1' g3 ?_)
  refine wpAny_bind (listItems_at (xs := #[]) (n := 0) (Heap.get?_push_size _ rfl) rfl ?_); rw [if_neg (by simp)]
  refine wpAny_bind (listUpdate_at (xs := #[]) (n := 0) (Heap.get?_push_size _ rfl) rfl ?_ (Nat.zero_le _) (by show (#[] ++ us.toArray).size ≤ sizeLine + 1; simp only [Array.size_append, List.size_toArray, List.length_nil]; omega))
  refine wpAny_pure ?_
  show wpAny (model prog w) A (do
      let ob ← load s.heap.objs.size
      match ob.data with
      | .seq ys _ => pure ys.toList
      | _ => unsupported "internal:collect") R E { s with heap := (s.heap.push (seqObj "list" #[] 0)).update s.heap.objs.size (Obj.mapSeq (· ++ us.toArray)) }
  refine wpAny_bind (wpAny_load (get?_update_seq (Heap.get?_push_size _ rfl) _) ?_); show wpAny _ _ (pure ((#[] : Array Value) ++ us.toArray).toList) R E _
  rw [show ((#[] : Array Value) ++ us.toArray).toList = us by simp]
  exact wpAny_pure h
/-- sorted(t) of a tuple -/
theorem sorted_tup {tp : Addr} {us : List Value} {ltv : Value → Value → Bool} {R : Value → Shared → Prop} (O : Swo ltv) (ht : IsTup s.heap tp us.toArray) (hz : us.length ≤ sizeLine)
    (hS : 2 ≤ us.length → ∀ (h₁ : Heap) (b : Addr), h₁.get? b = some (seqObj "list" us.toArray 0) → (∀ c o, s.heap.get? c = some o → c ≠ b ∧ h₁.get? c = some o) → SortableO prog w A.in1.in1 { s with heap := h₁ } b us ltv)
    (h : ∀ out : List Value, Srtd ltv out → Stb ltv out us → R (.ref (s.heap.objs.size + 1)) { s with heap := sortedAll s.heap us out.toArray }) :
    wpAny (model prog w) A (call (.builtin "sorted") [.ref tp]) R E s := by
  refine Calls.call_function_entry kind_sorted plain_sorted entry_sorted (args_sorted1 _) ?_; unfold Builtin.«sorted»
  refine wpAny_bind (m := checkCount "sorted" 1 1 _) (wpAny_pure ?_); refine wpAny_bind (gather_tup ht ?_ hz)
  refine wpAny_bind (wpAny_newList ?_ hz)
  have sz : ((s.heap.push (seqObj "list" #[] 0)).update s.heap.objs.size (Obj.mapSeq (· ++ us.toArray))).objs.size = s.heap.objs.size + 1 := by rw [Heap.size_update, size_push']
  have oL : (((s.heap.push (seqObj "list" #[] 0)).update s.heap.objs.size (Obj.mapSeq (· ++ us.toArray))).push (seqObj "list" us.toArray 0)).get? (s.heap.objs.size + 1) = some (seqObj "list" us.toArray 0) := by rw [← sz]; exact Heap.get?_push_size _ rfl
  have kp : ∀ c o, s.heap.get? c = some o → c ≠ s.heap.objs.size + 1 ∧ (((s.heap.push (seqObj "list" #[] 0)).update s.heap.objs.size (Obj.mapSeq (· ++ us.toArray))).push (seqObj "list" us.toArray 0)).get? c = some o := fun c o q => by
    have lt : c < s.heap.objs.size := Heap.lt_size q
    refine ⟨Nat.ne_of_lt (Nat.lt_succ_of_lt lt), Heap.get?_push_of_some _ ?_⟩
    rw [Heap.get?_update_ne _ _ _ _ (Nat.ne_of_lt lt)]; exact Heap.get?_push_of_some _ q
  show wpAny _ _ _ _ _ { s with heap := ((s.heap.push (seqObj "list" #[] 0)).update s.heap.objs.size (Obj.mapSeq (· ++ us.toArray))).push (seqObj "list" us.toArray 0) }
  rw [sz]
  refine wpAny_bind (wpAny_holding (wpAny_call_entry slot_list_sort ⟨_, oL, rfl⟩ entry_list_sort (list_sort_ord O oL hz (fun h2 => hS h2 _ _ oL kp) fun out hs hb => ⟨_, rfl, ?_⟩) (args_list_sort _)))
  exact wpAny_pure ⟨_, rfl, h out hs hb⟩
end SrtT
namespace L2
open PySem PySem.Spec PyProof.Rows
def rSortedTI (K : PySem.W.Frag) : List V → Hp → VK → Prop := fun vs H Q => ∃ (a : Addr) (ns : List Int), vs = [V.ref a] ∧ SqT K H a (ns.map V.int) ∧
  ∀ (ms : List Int) (p : Addr), ms.Perm ns → ms.Pairwise (· ≤ ·) → H p = none → Q (.ref p) (upd H p (.lst (ms.map V.int)))
variable {X : Cx}
theorem cr_sortedTI : CallR X (.builtin "sorted") (rSortedTI X.K) := by
  intro pins s σ H vs us Q I r h
  obtain ⟨tp, ns, rfl, hs, q⟩ := h
  obtain ⟨its, rv, hl, hz⟩ := I.tuple hs
  rw [Vals.ref1 r]
  have hi := rv.ints
  refine SrtT.sorted_tup SrtO.swo_int hl (by rw [← rv.length]; exact hz) (fun h2 h₁ b _ _ => SrtO.ints_sortable hi h2) fun out h1 h2 => ?_
  obtain ⟨k1, k2, k3⟩ := SrtO.ints_out hi h1 h2
  obtain ⟨ep, he⟩ := PyProof.Rows.sortedAll_at s.heap its out.toArray
  have hn : ((out.map SrtO.iv).map V.int).length ≤ sizeLine := by rw [List.length_map, k2.length_eq]; rw [List.length_map] at hz; exact hz
  refine ⟨.ref _, upd H (s.heap.objs.size + 1) (.lst ((out.map SrtO.iv).map V.int)), ?_, rfl, q _ _ k2 k3 (I.hok.fresh (Nat.le_succ _))⟩
  exact I.laid (t' := s.toks) (fun _ _ => PyProof.Rows.sortedAll_old) (Nat.le_succ _) ⟨hn, out, ep, vals_of_ints k1, he⟩
end L2
namespace DL
noncomputable section
open PySem PySem.Spec PyProof.Rows L2

/-! ### subscripts -/
def ixO : Op2 := fun a b S => match b with
  | .p (.int i) => match a with
    | .p (.str z) => if z.length ≤ sizeLine then (atI z.cps.toList i).map fun c => (.p (.str ⟨#[c]⟩), S) else none
    | _ => match items a S with
      | some xs => (atI xs i).map fun x => (.p x, S)
      | none => match nitems a S with
        | some ks => (atI ks i).map fun k => (.c k, S)
        | none => none
  | _ => none
theorem atI_krs {as : As} {vs : List V} {ks : List Nat} {i : Int} {k : Nat} (t : KRs as vs ks) (e : atI ks i = some k) : ∃ v, atI vs i = some v ∧ ∃ b, as.cells[k]? = some b ∧ v = .ref b := by
  unfold atI at e ⊢
  rw [t.length]
  cases q : ixN ks.length i with
  | none => rw [q] at e; cases e
  | some j =>
    rw [q] at e
    exact t.get e
theorem atI_prs {M : Wd} {as : As} {H : Hp} {vs : List V} {ps : List PV} {i : Int} {p : PV} (t : PRs M as H vs ps) (e : atI ps i = some p) : ∃ v, atI vs i = some v ∧ PR M as H v p := by
  unfold atI at e ⊢
  rw [t.length]
  cases q : ixN ps.length i with
  | none => rw [q] at e; cases e
  | some j =>
    rw [q] at e
    exact t.get e
theorem ow_ix {X : Cx} : IxR X (rO (wd X) ixO) := by
  intro value slice pins s σ H x y v u Q I rx ry h hs
  obtain ⟨as, S, d1, d2, sr, r1, r2, w⟩ := h
  unfold ixO at w
  split at w
  · cases r2
    split at w
    · cases r1
      split at w
      · rename_i z
        revert w
        generalize e : atI _ _ = o
        intro w
        cases o with
        | none => exact w.elim
        | some c => exact ix_str value slice pins s σ H _ _ v u Q I rx ry ⟨_, _, c, rfl, rfl, z, e, w.here sr (.str _)⟩ hs
      · exact w.elim
    · split at w
      · rename_i xs e1
        revert w
        generalize e : atI _ _ = o
        intro w
        cases o with
        | none => exact w.elim
        | some c =>
          obtain ⟨a, vs, rfl, z, q, t⟩ := items_sq sr r1 e1
          obtain ⟨z, e2, r⟩ := atI_prs t e
          rcases q with q | q
          · exact ix_list value slice pins s σ H _ _ v u Q I rx ry ⟨_, _, _, z, rfl, rfl, q, e2, w.here sr r⟩ hs
          · exact ix_tup value slice pins s σ H _ _ v u Q I rx ry ⟨_, _, _, z, rfl, rfl, q, e2, w.here sr r⟩ hs
      · split at w
        · rename_i ks e1
          revert w
          generalize e : atI _ _ = o
          intro w
          cases o with
          | none => exact w.elim
          | some k =>
            obtain ⟨a, vs, rfl, z, q, t⟩ := nitems_sq sr r1 e1
            obtain ⟨z, e2, b, eb, rfl⟩ := atI_krs t e
            exact ix_list value slice pins s σ H _ _ v u Q I rx ry ⟨_, _, _, _, rfl, rfl, .of q, e2, w.here sr ⟨b, eb, rfl⟩⟩ hs
        · exact w.elim
  · exact w.elim
section
variable {X : Cx} {E : L2.St → XK} {a b c : Expr} {es : List Expr} {pos : Pos} {fa fb fc : Sig → AH → Res DV} {fs : Sig → AH → Res (List DV)}
theorem de_ix (ha : DE X E a fa) (hb : DE X E b fb) (hs : PlainIx b) : DE X E (.Subscript a b pos) (dBin ixO fa fb) := (pe_ix ow_ix ha hb hs).imp fun σ H Q ⟨as, δ, S, sr, er, w⟩ => t2 sr er w
end

/-- the items of a list -/
def litems : DV → AH → Option (List PV)
  | .p (.lst xs), _ => some xs
  | .p (.fro xs), _ => some xs
  | .c n, S => match S[n]? with
    | some (.lst xs) => some xs
    | _ => none
  | _, _ => none
theorem litems_sq {M : Wd} {as : As} {H : Hp} {S : AH} {d : DV} {v : V} {xs : List PV} (h : SR M as H S) (r : DVR M as H v d) (e : litems d S = some xs) : ∃ a vs, v = .ref a ∧ vs.length ≤ sizeLine ∧ SqL M.K H a vs ∧ PRs M as H vs xs := by
  cases d with
  | p x =>
    cases x with
    | lst ys => cases e; cases r with | lst h t => exact ⟨_, _, rfl, h.1, h.sq, t⟩
    | fro ys => cases e; cases r with | fro h t => exact ⟨_, _, rfl, h.1, h.sq, t⟩
    | _ => cases e
  | c n =>
    obtain ⟨a, ea, rfl⟩ := r
    simp only [litems] at e
    split at e
    · rename_i ys q
      cases e
      obtain ⟨b, vs, eb, z, hb, t⟩ := h.at q
      rw [ea] at eb; cases eb
      exact ⟨_, _, rfl, z, .of hb, t⟩
    · cases e

/-! ### slices -/
def cutL {α : Type} (xs : List α) (lo hi : Option Int) : List α := (xs.drop (HT.sIx xs.length 0 lo)).take (HT.sIx xs.length xs.length hi - HT.sIx xs.length 0 lo)
def slO (a : DV) (lo hi : Option Int) (S : AH) : Option (DV × AH) := match a with
  | .p (.str z) => if z.length ≤ sizeLine then some (.p (.str (cutS z lo hi)), S) else none
  | .p (.tup xs) => some (.p (.tup (cutL xs lo hi)), S)
  | _ => match litems a S with
    | some xs => some (.p (.lst (cutL xs lo hi)), S)
    | none => none
def tDO (M : Wd) (E : L2.St → XK) (f : Sig → AH → Res (Option Int)) : TO := fun σ H Q => ∃ as δ S, SR M as H S ∧ ER M as H σ δ ∧ WR M (E σ) RB as H (f δ S) Q
abbrev DP (X : Cx) (E : L2.St → XK) (e : Option Expr) (f : Sig → AH → Res (Option Int)) : Prop := PO X e (tDO (wd X) E f)
theorem PO.imp {X : Cx} {e : Option Expr} {t t' : TO} (h : PO X e t) (i : ∀ σ H Q, t' σ H Q → t σ H Q) : PO X e t' := ⟨fun pins s σ H Q I q => h.run pins s σ H Q I (i σ H Q q)⟩
def dNoPart : Sig → AH → Res (Option Int) := fun _ S => .ok none S
def dPart (fa : Sig → AH → Res DV) : Sig → AH → Res (Option Int) := fun δ S => (fa δ S).bind fun a S => match a with
  | .p (.int i) => .ok (some i) S
  | _ => .bad
def dSl (fa : Sig → AH → Res DV) (fl fh : Sig → AH → Res (Option Int)) : Sig → AH → Res DV := fun δ S => (fa δ S).bind fun a S => (fl δ S).bind fun l S => (fh δ S).bind fun h S => lift (slO a l h S)
theorem cutV_prs {M : Wd} {as : As} {H : Hp} {vs : List V} {ps : List PV} (t : PRs M as H vs ps) (lo hi : Option Int) : PRs M as H (cutV vs lo hi) (cutL ps lo hi) := by
  unfold cutV cutL
  rw [t.length]
  exact (t.drop _).take _
theorem cutV_len (vs : List V) (lo hi : Option Int) : (cutV vs lo hi).length ≤ vs.length := by
  unfold cutV
  rw [List.length_take, List.length_drop]
  omega
theorem cut_whole {α : Type} (xs : List α) {lo hi : Option Int} (h : HT.sIx xs.length 0 lo = 0 ∧ HT.sIx xs.length xs.length hi = xs.length) : cutL xs lo hi = xs := by
  unfold cutL
  rw [h.1, h.2, List.drop_zero, Nat.sub_zero, List.take_length]
def rSlD (M : Wd) : V → Option Int → Option Int → Hp → VK → Prop := fun x lo hi H Q => ∃ as S d, SR M as H S ∧ DVR M as H x d ∧ WO M as H (slO d lo hi S) Q
theorem ow_sl {X : Cx} : L2.SlR X (rSlD (wd X)) := by
  intro pins s σ H x v vl vu lo hi sl Q I rx hs pl pu h
  obtain ⟨as, S, d, sr, r, w⟩ := h
  unfold slO at w
  split at w
  · cases r
    split at w
    · rename_i z
      exact sl_str pins s σ H _ v vl vu lo hi sl Q I rx hs pl pu ⟨_, rfl, z, w.here sr (.str _)⟩
    · exact w.elim
  · cases r with
    | tup h1 t1 =>
      have hl := t1.length
      refine sl_tupZ pins s σ H _ v vl vu lo hi sl Q I rx hs pl pu ⟨_, _, rfl, h1.sq, fun e => ?_, fun e => ?_⟩
      · rw [hl] at e
        rw [cut_whole _ e] at w
        exact w.here sr (.tup h1 t1)
      · exact w.tup sr (Nat.le_trans (cutV_len _ _ _) h1.1) (cutV_prs t1 _ _)
  · split at w
    · rename_i xs e
      obtain ⟨a, vs, rfl, z, q, t⟩ := litems_sq sr r e
      exact sl_list pins s σ H _ v vl vu lo hi sl Q I rx hs pl pu ⟨_, _, rfl, q, fun p n => w.lst sr (Nat.le_trans (cutV_len _ _ _) z) (cutV_prs t _ _) n⟩
    · exact w.elim
section
variable {X : Cx} {E : L2.St → XK} {a b c : Expr} {es : List Expr} {pos p2 : Pos} {lo hi : Option Expr} {fa fb fc : Sig → AH → Res DV} {fs : Sig → AH → Res (List DV)} {fl fh : Sig → AH → Res (Option Int)}
theorem dp_none : DP X E none dNoPart := PO.imp po_none fun σ H Q ⟨as, δ, S, sr, er, w⟩ => WR.pure (b := none) w sr rfl
theorem dp_some (ha : DE X E a fa) : DP X E (some a) (dPart fa) := PO.imp (po_some ha) fun σ H Q ⟨as, δ, S, sr, er, w⟩ =>
  ⟨as, δ, S, sr, er, w.bind.mono fun _ _ _ _ _ _ _ _ _ ⟨as1, S1, d1, _, x1, s1, r1, w1⟩ => by
    split at w1
    · cases r1
      exact ⟨_, rfl, WR.pure (b := _) w1 s1 rfl⟩
    · exact w1.elim⟩
theorem de_sl (ha : DE X E a fa) (hl : DP X E lo fl) (hh : DP X E hi fh) : DE X E (.Subscript a (.Slice lo hi none p2) pos) (dSl fa fl fh) := (pe_slice ow_sl ha hl hh).imp fun σ H Q ⟨as, δ, S, sr, er, w⟩ =>
  ⟨as, δ, S, sr, er, w.bind.mono fun _ _ _ _ _ _ _ _ _ ⟨as1, S1, d1, _, x1, s1, r1, w1⟩ =>
    ⟨as1, δ, S1, s1, er.mono x1.w, w1.bind.mono fun _ _ _ _ _ _ _ _ _ ⟨as2, S2, d2, _, x2, s2, r2, w2⟩ =>
      ⟨as2, δ, S2, s2, (er.mono x1.w).mono x2.w, w2.bind.mono fun _ _ _ _ _ _ _ _ _ ⟨as3, S3, d3, _, x3, s3, r3, w3⟩ => by
        cases r2; cases r3
        exact ⟨as3, S3, d1, s3, (r1.mono x2.w).mono x3.w, w3.wo⟩⟩⟩⟩
end

/-! ### built-in functions and classes -/
section
variable {X : Cx} {E : L2.St → XK} {a b c : Expr} {es : List Expr} {p pos : Pos} {x : Str} {T id : String} {fa fb fc : Sig → AH → Res DV} {fs : Sig → AH → Res (List DV)} {o : OpN}
theorem tApp {σ : L2.St} {H : Hp} {Q : VK} {as : As} {δ : Sig} {S : AH} (sr : SR (wd X) as H S) (er : ER (wd X) as H σ δ) (w : WR (wd X) (E σ) (DVR (wd X)) as H (dApp o fs δ S) Q) : tCB (rON (wd X) o) (tDA (wd X) E fs) σ H Q :=
  ⟨as, δ, S, sr, er, w.bind.mono fun _ _ _ _ _ _ _ _ _ ⟨as1, S1, d1, _, x1, s1, r1, w1⟩ => ⟨as1, S1, d1, s1, r1, w1.wo⟩⟩
theorem de_callB (hc : CallR X (.builtin id) (rON (wd X) o)) (hg : Gl X x) (hm : X.mg x = none) (hv : bootBuiltins x = some (.builtin id)) (ha : DA X E (a :: es) fs) (hn : x ≠ "__name__" := by decide) (hdb : (x == ("__debug__" : Str)) = false := by decide)
    (he : starEach (a :: es) X.env = (false, eval a X.env) :: starEach es X.env := by rfl) (hpl : (backTo pos (starEach es X.env)).any (·.1) = false := by rfl) : DE X E (.Call (.Name x p) (a :: es) [] pos) (dApp o fs) := (pe_callB hc hg hm hv ha hn hdb he hpl).imp fun σ H Q ⟨as, δ, S, sr, er, w⟩ => tApp sr er w
theorem de_callTy (hc : CallR X (.type T) (rON (wd X) o)) (hg : Gl X x) (hm : X.mg x = none) (hv : bootBuiltins x = some (.type T)) (ha : DA X E (a :: es) fs) (hn : x ≠ "__name__" := by decide) (hdb : (x == ("__debug__" : Str)) = false := by decide)
    (he : starEach (a :: es) X.env = (false, eval a X.env) :: starEach es X.env := by rfl) (hpl : (backTo pos (starEach es X.env)).any (·.1) = false := by rfl) : DE X E (.Call (.Name x p) (a :: es) [] pos) (dApp o fs) := (pe_callTy hc hg hm hv ha hn hdb he hpl).imp fun σ H Q ⟨as, δ, S, sr, er, w⟩ => tApp sr er w
end
def intsOf : List PV → Option (List Int)
  | [] => some []
  | .int i :: r => (intsOf r).map fun t => i :: t
  | _ :: _ => none
def blsOf : List PV → Option (List Bool)
  | [] => some []
  | .bl i :: r => (blsOf r).map fun t => i :: t
  | _ :: _ => none
theorem intsOf_ok : ∀ {ps : List PV} {ns : List Int}, intsOf ps = some ns → ps = ns.map PV.int
  | [], _, e => by cases e; rfl
  | .int i :: r, ns, e => by
    simp only [intsOf, Option.map_eq_some_iff] at e
    obtain ⟨t, e1, rfl⟩ := e
    rw [intsOf_ok e1]; rfl
  | .non :: _, _, e => by cases e
  | .bl _ :: _, _, e => by cases e
  | .str _ :: _, _, e => by cases e
  | .tup _ :: _, _, e => by cases e
  | .lst _ :: _, _, e => by cases e
  | .fro _ :: _, _, e => by cases e
  | .glob _ :: _, _, e => by cases e
theorem intsOf_map (ns : List Int) : intsOf (ns.map PV.int) = some ns := by
  induction ns with
  | nil => rfl
  | cons n ns ih => simp [intsOf, ih]
theorem blsOf_ok : ∀ {ps : List PV} {ns : List Bool}, blsOf ps = some ns → ps = ns.map PV.bl
  | [], _, e => by cases e; rfl
  | .bl i :: r, ns, e => by
    simp only [blsOf, Option.map_eq_some_iff] at e
    obtain ⟨t, e1, rfl⟩ := e
    rw [blsOf_ok e1]; rfl
  | .non :: _, _, e => by cases e
  | .int _ :: _, _, e => by cases e
  | .str _ :: _, _, e => by cases e
  | .tup _ :: _, _, e => by cases e
  | .lst _ :: _, _, e => by cases e
  | .fro _ :: _, _, e => by cases e
  | .glob _ :: _, _, e => by cases e
theorem blsOf_map (ns : List Bool) : blsOf (ns.map PV.bl) = some ns := by
  induction ns with
  | nil => rfl
  | cons n ns ih => simp [blsOf, ih]
def lenO : OpN := fun ds S => match ds with
  | [.p (.str x)] => if x.length ≤ sizeLine then some (.p (.int x.length), S) else none
  | [d] => match items d S with
    | some xs => some (.p (.int xs.length), S)
    | none => match nitems d S with
      | some ks => some (.p (.int ks.length), S)
      | none => none
  | _ => none
def absO : OpN := fun ds S => match ds with
  | [.p (.int i)] => some (.p (.int (if i < 0 then -i else i)), S)
  | _ => none
def intO : OpN := fun ds S => match ds with
  | [.p (.int i)] => some (.p (.int i), S)
  | [.p (.bl k)] => some (.p (.int (if k then 1 else 0)), S)
  | _ => none
def maxI : List Int → Int
  | [] => 0
  | [a] => a
  | a :: r => max a (maxI r)
def minI : List Int → Int
  | [] => 0
  | [a] => a
  | a :: r => min a (minI r)
theorem maxI_mem : ∀ (ns : List Int), ns ≠ [] → maxI ns ∈ ns ∧ ∀ y ∈ ns, y ≤ maxI ns
  | [], h => absurd rfl h
  | [a], _ => ⟨List.mem_singleton.mpr rfl, fun y hy => by rw [List.mem_singleton.mp hy]; exact Int.le_refl _⟩
  | a :: b :: r, _ => by
    obtain ⟨h1, h2⟩ := maxI_mem (b :: r) (by simp)
    show max a (maxI (b :: r)) ∈ _ ∧ ∀ y ∈ _, y ≤ max a (maxI (b :: r))
    refine ⟨?_, fun y hy => ?_⟩
    · by_cases h : maxI (b :: r) ≤ a
      · rw [Int.max_eq_left h]; exact List.mem_cons_self
      · rw [Int.max_eq_right (by omega)]; exact List.mem_cons_of_mem _ h1
    · rcases List.mem_cons.mp hy with rfl | hy
      · omega
      · have := h2 y hy; omega
theorem minI_mem : ∀ (ns : List Int), ns ≠ [] → minI ns ∈ ns ∧ ∀ y ∈ ns, minI ns ≤ y
  | [], h => absurd rfl h
  | [a], _ => ⟨List.mem_singleton.mpr rfl, fun y hy => by rw [List.mem_singleton.mp hy]; exact Int.le_refl _⟩
  | a :: b :: r, _ => by
    obtain ⟨h1, h2⟩ := minI_mem (b :: r) (by simp)
    show min a (minI (b :: r)) ∈ _ ∧ ∀ y ∈ _, min a (minI (b :: r)) ≤ y
    refine ⟨?_, fun y hy => ?_⟩
    · by_cases h : a ≤ minI (b :: r)
      · rw [Int.min_eq_left h]; exact List.mem_cons_self
      · rw [Int.min_eq_right (by omega)]; exact List.mem_cons_of_mem _ h1
    · rcases List.mem_cons.mp hy with rfl | hy
      · omega
      · have := h2 y hy; omega
def maxO : OpN := fun ds S => match ds with
  | [.p (.int i), .p (.int j)] => some (.p (.int (if j > i then j else i)), S)
  | [d] => match litems d S with
    | some xs => match intsOf xs with
      | some ns => if ns ≠ [] then some (.p (.int (maxI ns)), S) else none
      | none => none
    | none => none
  | _ => none
def minO : OpN := fun ds S => match ds with
  | [.p (.int i), .p (.int j)] => some (.p (.int (if j < i then j else i)), S)
  | [d] => match litems d S with
    | some xs => match intsOf xs with
      | some ns => if ns ≠ [] then some (.p (.int (minI ns)), S) else none
      | none => none
    | none => none
  | _ => none
def sumO : OpN := fun ds S => match ds with
  | [d] => match items d S with
    | some xs => match intsOf xs with
      | some ns => some (.p (.int ns.sum), S)
      | none => none
    | none => none
  | _ => none
def allO : OpN := fun ds S => match ds with
  | [d] => match litems d S with
    | some xs => match blsOf xs with
      | some ns => some (.p (.bl (ns.all id)), S)
      | none => none
    | none => none
  | _ => none
def anyO : OpN := fun ds S => match ds with
  | [d] => match litems d S with
    | some xs => match blsOf xs with
      | some ns => some (.p (.bl (ns.any id)), S)
      | none => none
    | none => none
  | _ => none
def tupleO : OpN := fun ds S => match ds with
  | [d] => match items d S with
    | some xs => some (.p (.tup xs), S)
    | none => none
  | _ => none
theorem DVRs.one {M : Wd} {as : As} {H : Hp} {vs : List V} {d : DV} (r : DVRs M as H vs [d]) : ∃ v, vs = [v] ∧ DVR M as H v d := by
  cases r with
  | cons h t => cases t; exact ⟨_, rfl, h⟩
theorem DVRs.two {M : Wd} {as : As} {H : Hp} {vs : List V} {d e : DV} (r : DVRs M as H vs [d, e]) : ∃ v w, vs = [v, w] ∧ DVR M as H v d ∧ DVR M as H w e := by
  cases r with
  | cons h t =>
    obtain ⟨w, rfl, h2⟩ := DVRs.one t
    exact ⟨_, _, rfl, h, h2⟩
section
variable {X : Cx}
theorem ow_len : CallR X (.builtin "len") (rON (wd X) lenO) := by
  intro pins s σ H vs us Q I rv h
  obtain ⟨as, S, ds, sr, r, w⟩ := h
  unfold lenO at w
  split at w
  · obtain ⟨v, rfl, r1⟩ := DVRs.one r
    cases r1
    split at w
    · rename_i z
      exact call_len pins s σ H _ us Q I rv ⟨_, _, rfl, ⟨z, rfl⟩, w.here sr (.int _)⟩
    · exact w.elim
  · obtain ⟨v, rfl, r1⟩ := DVRs.one r
    split at w
    · rename_i xs e
      obtain ⟨a, vs, rfl, z, q, t⟩ := items_sq sr r1 e
      rw [← t.length] at w
      rcases q with q | q
      · exact call_len pins s σ H _ us Q I rv ⟨_, _, rfl, .inl ⟨vs, q, rfl⟩, w.here sr (.int _)⟩
      · exact call_len pins s σ H _ us Q I rv ⟨_, _, rfl, .inr ⟨vs, q, rfl⟩, w.here sr (.int _)⟩
    · split at w
      · rename_i ks e
        obtain ⟨a, vs, rfl, z, q, t⟩ := nitems_sq sr r1 e
        rw [← t.length] at w
        exact call_len pins s σ H _ us Q I rv ⟨_, _, rfl, .inl ⟨vs, .of q, rfl⟩, w.here sr (.int _)⟩
      · exact w.elim
  · exact w.elim
theorem ow_abs : CallR X (.builtin "abs") (rON (wd X) absO) := by
  intro pins s σ H vs us Q I rv h
  obtain ⟨as, S, ds, sr, r, w⟩ := h
  unfold absO at w
  split at w
  · obtain ⟨v, rfl, r1⟩ := DVRs.one r
    cases r1
    exact call_abs pins s σ H _ us Q I rv ⟨_, rfl, w.here sr (.int _)⟩
  · exact w.elim
theorem ow_int : CallR X (.type "int") (rON (wd X) intO) := by
  intro pins s σ H vs us Q I rv h
  obtain ⟨as, S, ds, sr, r, w⟩ := h
  unfold intO at w
  split at w
  · obtain ⟨v, rfl, r1⟩ := DVRs.one r
    cases r1
    exact call_int1 pins s σ H _ us Q I rv (.inl ⟨_, rfl, w.here sr (.int _)⟩)
  · obtain ⟨v, rfl, r1⟩ := DVRs.one r
    cases r1
    exact call_int1 pins s σ H _ us Q I rv (.inr ⟨_, rfl, w.here sr (.int _)⟩)
  · exact w.elim
theorem ow_max (hc : X.calm = true) : CallR X (.builtin "max") (rON (wd X) maxO) := by
  intro pins s σ H vs us Q I rv h
  obtain ⟨as, S, ds, sr, r, w⟩ := h
  unfold maxO at w
  split at w
  · obtain ⟨v, v2, rfl, r1, r2⟩ := DVRs.two r
    cases r1; cases r2
    exact call_max2 hc pins s σ H _ us Q I rv ⟨_, _, rfl, w.here sr (.int _)⟩
  · obtain ⟨v, rfl, r1⟩ := DVRs.one r
    split at w
    · rename_i xs e
      obtain ⟨a, vs, rfl, z, q, t⟩ := litems_sq sr r1 e
      split at w
      · rename_i ns e2
        rw [intsOf_ok e2] at t
        rw [t.ints] at q
        split at w
        · rename_i hne
          obtain ⟨g1, g2⟩ := maxI_mem ns hne
          refine cr_max hc pins s σ H _ us Q I rv ⟨a, ns, rfl, q, List.length_pos_iff.mpr hne, fun m h1 h2 => ?_⟩
          have e3 : m = maxI ns := Int.le_antisymm (g2 m h1) (h2 _ g1)
          subst e3
          exact w.here sr (.int _)
        · exact w.elim
      · exact w.elim
    · exact w.elim
  · exact w.elim
theorem ow_min (hc : X.calm = true) : CallR X (.builtin "min") (rON (wd X) minO) := by
  intro pins s σ H vs us Q I rv h
  obtain ⟨as, S, ds, sr, r, w⟩ := h
  unfold minO at w
  split at w
  · obtain ⟨v, v2, rfl, r1, r2⟩ := DVRs.two r
    cases r1; cases r2
    exact call_min2 hc pins s σ H _ us Q I rv ⟨_, _, rfl, w.here sr (.int _)⟩
  · obtain ⟨v, rfl, r1⟩ := DVRs.one r
    split at w
    · rename_i xs e
      obtain ⟨a, vs, rfl, z, q, t⟩ := litems_sq sr r1 e
      split at w
      · rename_i ns e2
        rw [intsOf_ok e2] at t
        rw [t.ints] at q
        split at w
        · rename_i hne
          obtain ⟨g1, g2⟩ := minI_mem ns hne
          refine cr_min hc pins s σ H _ us Q I rv ⟨a, ns, rfl, q, List.length_pos_iff.mpr hne, fun m h1 h2 => ?_⟩
          have e3 : m = minI ns := Int.le_antisymm (h2 _ g1) (g2 m h1)
          subst e3
          exact w.here sr (.int _)
        · exact w.elim
      · exact w.elim
    · exact w.elim
  · exact w.elim
/-- sum of a tuple -/
theorem cr_sumT (hc : X.calm = true) : CallR X (.builtin "sum") (fun vs H Q => ∃ (a : Addr) (ns : List Int), vs = [V.ref a] ∧ SqT X.K H a (ns.map V.int) ∧ Q (.int ns.sum) H) := by
  intro pins s σ H vs us Q I r h
  obtain ⟨a, ns, rfl, hs, q⟩ := h
  obtain ⟨its, rv, ht, _⟩ := I.tuple hs
  rw [Vals.ref1 r]
  have hi := rv.ints
  obtain ⟨xs, e⟩ := hi.allInts.items
  have hn : numsOf (intItems xs).toList = ns := by rw [← e]; exact hi.numsOf
  rw [nums_intItems] at hn
  have ht' : s.heap.IsTuple a its.toArray := ht
  rw [e] at ht'
  refine PySem.W.ktm_sumG (I.ok.hd hc) ht' fun h' tk t' hk => ?_
  rw [preSum_eq, List.take_of_length_le (by simp), hn]
  exact ⟨.int _, H, I.kept hk, ⟨_, rfl⟩, q⟩
theorem ow_sum (hc : X.calm = true) : CallR X (.builtin "sum") (rON (wd X) sumO) := by
  intro pins s σ H vs us Q I rv h
  obtain ⟨as, S, ds, sr, r, w⟩ := h
  unfold sumO at w
  split at w
  · obtain ⟨v, rfl, r1⟩ := DVRs.one r
    split at w
    · rename_i xs e
      obtain ⟨a, vs, rfl, z, q, t⟩ := items_sq sr r1 e
      split at w
      · rename_i ns e2
        rw [intsOf_ok e2] at t
        rw [t.ints] at q
        rcases q with q | q
        · exact cr_sum hc pins s σ H _ us Q I rv ⟨a, ns, rfl, q, w.here sr (.int _)⟩
        · exact cr_sumT hc pins s σ H _ us Q I rv ⟨a, ns, rfl, q, w.here sr (.int _)⟩
      · exact w.elim
    · exact w.elim
  · exact w.elim
theorem ow_all (hc : X.calm = true) : CallR X (.builtin "all") (rON (wd X) allO) := by
  intro pins s σ H vs us Q I rv h
  obtain ⟨as, S, ds, sr, r, w⟩ := h
  unfold allO at w
  split at w
  · obtain ⟨v, rfl, r1⟩ := DVRs.one r
    split at w
    · rename_i xs e
      obtain ⟨a, vs, rfl, z, q, t⟩ := litems_sq sr r1 e
      split at w
      · rename_i ns e2
        rw [blsOf_ok e2] at t
        rw [t.bls] at q
        exact cr_all hc pins s σ H _ us Q I rv ⟨a, ns, rfl, q, w.here sr (.bl _)⟩
      · exact w.elim
    · exact w.elim
  · exact w.elim
theorem ow_any (hc : X.calm = true) : CallR X (.builtin "any") (rON (wd X) anyO) := by
  intro pins s σ H vs us Q I rv h
  obtain ⟨as, S, ds, sr, r, w⟩ := h
  unfold anyO at w
  split at w
  · obtain ⟨v, rfl, r1⟩ := DVRs.one r
    split at w
    · rename_i xs e
      obtain ⟨a, vs, rfl, z, q, t⟩ := litems_sq sr r1 e
      split at w
      · rename_i ns e2
        rw [blsOf_ok e2] at t
        rw [t.bls] at q
        exact cr_any hc pins s σ H _ us Q I rv ⟨a, ns, rfl, q, w.here sr (.bl _)⟩
      · exact w.elim
    · exact w.elim
  · exact w.elim
theorem tup_or_lst {M : Wd} {as : As} {H : Hp} {S : AH} {d : DV} {v : V} {xs : List PV} (h : SR M as H S) (r : DVR M as H v d) (e : items d S = some xs) : d = .p (.tup xs) ∨ litems d S = some xs := by
  cases d with
  | p x => cases x <;> first | (cases e; exact .inl rfl) | (cases e; exact .inr rfl) | cases e
  | c n => exact .inr e
theorem ow_tuple : CallR X (.type "tuple") (rON (wd X) tupleO) := by
  intro pins s σ H vs us Q I rv h
  obtain ⟨as, S, ds, sr, r, w⟩ := h
  unfold tupleO at w
  split at w
  · obtain ⟨v, rfl, r1⟩ := DVRs.one r
    split at w
    · rename_i xs e
      rcases tup_or_lst sr r1 e with e | e
      · subst e
        cases r1 with
        | tup h1 t1 => exact call_tupZ pins s σ H _ us Q I rv ⟨_, _, rfl, .inr ⟨h1.sq, w.here sr (.tup h1 t1)⟩⟩
      · obtain ⟨a, vs, rfl, z, q, t⟩ := litems_sq sr r1 e
        exact call_tupZ pins s σ H _ us Q I rv ⟨_, _, rfl, .inl ⟨q, w.tup sr z t⟩⟩
    · exact w.elim
  · exact w.elim
end
/-- a built-in that gives a new list -/
abbrev OpF := List DV → AH → Option (List PV)
def rFN (M : Wd) (o : OpF) : List V → Hp → VK → Prop := fun vs H Q => ∃ as S ds ps, SR M as H S ∧ DVRs M as H vs ds ∧ o ds S = some ps ∧ ∀ p ws, ws.length ≤ sizeLine → PRs M as H ws ps → H p = none → Q (.ref p) (upd H p (.lst ws))
def dAppF (o : OpF) (fa : Sig → AH → Res (List DV)) : Sig → AH → Res (List PV) := fun δ S => (fa δ S).bind fun ds S => match o ds S with
  | some ps => .ok ps S
  | none => .bad
section
variable {X : Cx} {E : L2.St → XK} {a b c : Expr} {es : List Expr} {p pos : Pos} {x : Str} {T id : String} {fa fb fc : Sig → AH → Res DV} {fs : Sig → AH → Res (List DV)} {o : OpF}
theorem tAppF {σ : L2.St} {H : Hp} {Q : VK} {as : As} {δ : Sig} {S : AH} (sr : SR (wd X) as H S) (er : ER (wd X) as H σ δ) (w : WF (wd X) (E σ) as H (dAppF o fs δ S) Q) : tCB (rFN (wd X) o) (tDA (wd X) E fs) σ H Q :=
  ⟨as, δ, S, sr, er, (WF.bind w).mono fun _ _ _ _ _ _ _ _ _ ⟨as1, S1, d1, _, x1, s1, r1, w1⟩ => by
    split at w1
    · rename_i ps e
      exact ⟨as1, S1, d1, ps, s1, r1, e, fun p ws z t n => w1.here s1 z t n⟩
    · exact w1.elim⟩
theorem fe_callB (hc : CallR X (.builtin id) (rFN (wd X) o)) (hg : Gl X x) (hm : X.mg x = none) (hv : bootBuiltins x = some (.builtin id)) (ha : DA X E (a :: es) fs) (hn : x ≠ "__name__" := by decide) (hdb : (x == ("__debug__" : Str)) = false := by decide)
    (he : starEach (a :: es) X.env = (false, eval a X.env) :: starEach es X.env := by rfl) (hpl : (backTo pos (starEach es X.env)).any (·.1) = false := by rfl) : FE X E (.Call (.Name x p) (a :: es) [] pos) (dAppF o fs) := (pe_callB hc hg hm hv ha hn hdb he hpl).imp fun σ H Q ⟨as, δ, S, sr, er, w⟩ => tAppF sr er w
theorem fe_callTy (hc : CallR X (.type T) (rFN (wd X) o)) (hg : Gl X x) (hm : X.mg x = none) (hv : bootBuiltins x = some (.type T)) (ha : DA X E (a :: es) fs) (hn : x ≠ "__name__" := by decide) (hdb : (x == ("__debug__" : Str)) = false := by decide)
    (he : starEach (a :: es) X.env = (false, eval a X.env) :: starEach es X.env := by rfl) (hpl : (backTo pos (starEach es X.env)).any (·.1) = false := by rfl) : FE X E (.Call (.Name x p) (a :: es) [] pos) (dAppF o fs) := (pe_callTy hc hg hm hv ha hn hdb he hpl).imp fun σ H Q ⟨as, δ, S, sr, er, w⟩ => tAppF sr er w
end
def listF : OpF := fun ds S => match ds with
  | [d] => items d S
  | _ => none
/-- sorted numbers -/
def insI (a : Int) : List Int → List Int
  | [] => [a]
  | b :: r => if a ≤ b then a :: b :: r else b :: insI a r
def sortI : List Int → List Int
  | [] => []
  | a :: r => insI a (sortI r)
theorem insI_perm (a : Int) : ∀ l, (insI a l).Perm (a :: l)
  | [] => .refl _
  | b :: r => by
    unfold insI
    split
    · exact .refl _
    · exact (List.Perm.cons b (insI_perm a r)).trans (List.Perm.swap a b r)
theorem sortI_perm : ∀ l, (sortI l).Perm l
  | [] => .refl _
  | a :: r => (insI_perm a (sortI r)).trans (List.Perm.cons a (sortI_perm r))
theorem insI_sorted (a : Int) : ∀ {l : List Int}, l.Pairwise (· ≤ ·) → (insI a l).Pairwise (· ≤ ·)
  | [], _ => by simp [insI]
  | b :: r, h => by
    have h' := List.pairwise_cons.mp h
    unfold insI
    split
    · rename_i z
      refine List.pairwise_cons.mpr ⟨fun y hy => ?_, h⟩
      rcases List.mem_cons.mp hy with rfl | hy
      · exact z
      · have := h'.1 y hy; omega
    · rename_i z
      refine List.pairwise_cons.mpr ⟨fun y hy => ?_, insI_sorted a h'.2⟩
      rcases List.mem_cons.mp ((insI_perm a r).mem_iff.mp hy) with rfl | hy
      · omega
      · exact h'.1 y hy
theorem sortI_sorted : ∀ l, (sortI l).Pairwise (· ≤ ·)
  | [] => .nil
  | a :: r => insI_sorted a (sortI_sorted r)
theorem sortI_only {l m : List Int} (h : m.Perm l) (s : m.Pairwise (· ≤ ·)) : m = sortI l := PySem.W.ksm_same (h.trans (sortI_perm l).symm) s (sortI_sorted l)
def sortedF : OpF := fun ds S => match ds with
  | [.p (.tup xs)] => match intsOf xs with
    | some ns => some ((sortI ns).map PV.int)
    | none => none
  | [d] => match litems d S with
    | some xs => match intsOf xs with
      | some ns => some ((sortI ns).map PV.int)
      | none => none
    | none => none
  | _ => none
section
variable {X : Cx}
theorem ow_list : CallR X (.type "list") (rFN (wd X) listF) := by
  intro pins s σ H vs us Q I rv h
  obtain ⟨as, S, ds, ps, sr, r, e, q⟩ := h
  unfold listF at e
  split at e
  · obtain ⟨v, rfl, r1⟩ := DVRs.one r
    obtain ⟨a, vs, rfl, z, q2, t⟩ := items_sq sr r1 e
    exact call_list_of pins s σ H _ us Q I rv ⟨a, vs, rfl, q2, fun p n => q p vs z t n⟩
  · cases e
theorem ow_sorted : CallR X (.builtin "sorted") (rFN (wd X) sortedF) := by
  intro pins s σ H vs us Q I rv h
  obtain ⟨as, S, ds, ps, sr, r, e, q⟩ := h
  unfold sortedF at e
  split at e
  · obtain ⟨v, rfl, r1⟩ := DVRs.one r
    cases r1 with
    | tup h t =>
      split at e
      · rename_i ns e2
        cases e
        rw [intsOf_ok e2] at t
        have hz := h.1
        have q2 := h.sq
        rw [t.ints] at q2 hz
        refine cr_sortedTI pins s σ H _ us Q I rv ⟨_, ns, rfl, q2, fun ns' p h1 h2 n => ?_⟩
        rw [sortI_only h1 h2]
        refine q p _ ?_ (PRs.of_ints _) n
        rw [List.length_map, (sortI_perm ns).length_eq, ← List.length_map (f := V.int)]
        exact hz
      · cases e
  · obtain ⟨v, rfl, r1⟩ := DVRs.one r
    split at e
    · rename_i xs e1
      obtain ⟨a, vs, rfl, z, q2, t⟩ := litems_sq sr r1 e1
      split at e
      · rename_i ns e2
        cases e
        rw [intsOf_ok e2] at t
        have hl : vs.length = ns.length := by rw [t.length, List.length_map]
        rw [t.ints] at q2
        refine cr_sortedI pins s σ H _ us Q I rv ⟨a, ns, rfl, q2, fun ns' p h1 h2 n => ?_⟩
        rw [sortI_only h1 h2]
        refine q p _ ?_ (PRs.of_ints _) n
        rw [List.length_map, (sortI_perm ns).length_eq, ← hl]
        exact z
      · cases e
    · cases e
  · cases e
end

/-! ### isinstance -/
def tyName : DV → AH → Option String
  | .p .non, _ => some "NoneType"
  | .p (.bl _), _ => some "bool"
  | .p (.int _), _ => some "int"
  | .p (.str _), _ => some "str"
  | .p (.tup _), _ => some "tuple"
  | .p (.lst _), _ => some "list"
  | .p (.fro _), _ => some "list"
  | .p (.glob _), _ => none
  | .c n, S => match S[n]? with
    | some (.lst _) => some "list"
    | _ => none
/-- is a value of the type a one of the type b -/
def isTy (a b : String) : Bool := a == b || (a == "bool" && b == "int")
def tyNames : List String := ["NoneType", "bool", "int", "str", "tuple", "list"]
def tyOk (b : String) : Bool := tyNames.all fun a => decide (kitB a b = some (isTy a b))
theorem tyName_in {d : DV} {S : AH} {a : String} (h : tyName d S = some a) : a ∈ tyNames := by
  unfold tyName at h
  split at h <;> first | (cases h; decide) | (cases h) | skip
  split at h
  · cases h; decide
  · cases h
theorem tyName_ty {M : Wd} {as : As} {H : Hp} {S : AH} {d : DV} {v : V} {a : String} (sr : SR M as H S) (r : DVR M as H v d) (h : tyName d S = some a) : TyX M.K H v (.type a) := by
  cases d with
  | p x =>
    cases x with
    | non => cases h; cases r; exact .base .non
    | bl b => cases h; cases r; exact .base (.bl _)
    | int i => cases h; cases r; exact .base (.int _)
    | str x => cases h; cases r; exact .base (.str _)
    | tup xs =>
      cases h
      cases r with
      | tup h1 t1 =>
        rcases h1.2 with ⟨⟨o, _, e⟩, _⟩ | ⟨o, its, n, hk, hc, _⟩
        · exact .fTuple e
        · exact .kTuple hk hc
    | lst xs => cases h; cases r with | lst h1 t1 => exact .base (.lst h1.2.1)
    | fro xs =>
      cases h
      cases r with
      | fro h1 t1 =>
        rcases h1.2 with ⟨⟨o, e⟩, _⟩ | ⟨o, its, n, hk, hc, _⟩
        · exact .base (.frz e)
        · exact .kList hk hc
    | glob n => cases h
  | c n =>
    obtain ⟨b, eb, rfl⟩ := r
    simp only [tyName] at h
    split at h
    · rename_i xs q
      cases h
      obtain ⟨b2, vs, eb2, z, hb, t⟩ := sr.at q
      rw [eb] at eb2; cases eb2
      exact .base (.lst hb)
    · cases h
def dIsi (T : String) (fa : Sig → AH → Res DV) : Sig → AH → Res DV := fun δ S => (fa δ S).bind fun a S => match tyName a S with
  | some t => .ok (.p (.bl (isTy t T))) S
  | none => .bad
theorem kit_any {K : PySem.W.Frag} {a : String} (ha : a ∈ tyNames) : ∀ {Ts : List String}, (∀ T ∈ Ts, tyOk T = true) → PySem.W.kitAny K (.type a) (Ts.map Value.type) = some (Ts.any fun T => isTy a T)
  | [], _ => rfl
  | T :: r, h => by
    have h1 : kitB a T = some (isTy a T) := of_decide_eq_true (List.all_eq_true.mp (h T List.mem_cons_self) a ha)
    have h2 := kit_any (K := K) ha (Ts := r) fun U hU => h U (List.mem_cons_of_mem _ hU)
    show PySem.W.kitAny K (.type a) (.type T :: r.map Value.type) = some (isTy a T || r.any fun T => isTy a T)
    cases e : isTy a T with
    | true =>
      rw [e] at h1
      exact kitAny_cons (b := true) (r := true) (kit_ty h1) (fun z => nomatch z) fun _ => rfl
    | false =>
      rw [e] at h1
      rw [Bool.false_or]
      exact kitAny_cons (b := false) (kit_ty h1) (fun _ => h2) fun z => nomatch z
def dIsiT (Ts : List String) (fa : Sig → AH → Res DV) : Sig → AH → Res DV := fun δ S => (fa δ S).bind fun a S => match tyName a S with
  | some t => .ok (.p (.bl (Ts.any fun T => isTy t T))) S
  | none => .bad
section
variable {X : Cx} {E : L2.St → XK} {a : Expr} {p q q1 q2 pos tpos : Pos} {T T2 : String} {x y : Str} {k : Nat} {fa : Sig → AH → Res DV}
theorem de_isi (hT : tyOk T = true) (hg : Gl X "isinstance") (hm : X.mg "isinstance" = none) (gx : Gl X x) (mx : X.mg x = none) (bx : bootBuiltins x = some (.type T)) (ha : DE X E a fa) (nx : x ≠ "__name__" := by decide) (dx : (x == ("__debug__" : Str)) = false := by decide)
    (he : starEach [a, .Name x q] X.env = (false, eval a X.env) :: starEach [.Name x q] X.env := by rfl) :
    DE X E (.Call (.Name "isinstance" p) [a, .Name x q] [] pos) (dIsi T fa) :=
  (pe_callB call_isi hg hm (show bootBuiltins "isinstance" = some (.builtin "isinstance") by decide +kernel) (pa_cons ha (pa_cons (pe_bltn (v := .ty T) gx mx bx rfl nx dx) pa_nil) he) (by decide) (by decide) he).imp fun σ H Q ⟨as, δ, S, sr, er, w⟩ =>
    ⟨as, δ, S, sr, er, w.bind.mono fun _ _ _ _ v _ _ _ _ ⟨as1, S1, d1, _, x1, s1, r1, w1⟩ => by
      split at w1
      · rename_i t e
        have h1 : kitB t T = some (isTy t T) := of_decide_eq_true (List.all_eq_true.mp hT t (tyName_in e))
        exact ⟨v, .ty T, _, _, _, rfl, .ty T, tyName_ty s1 r1 e, kit_ty h1, WR.pure w1 s1 (.bl _)⟩
      · exact w1.elim⟩
theorem de_isi2 (hT : tyOk T = true) (hT2 : tyOk T2 = true) (hg : Gl X "isinstance") (hm : X.mg "isinstance" = none) (gx : Gl X x) (mx : X.mg x = none) (bx : bootBuiltins x = some (.type T)) (gy : Gl X y) (my : X.mg y = none) (yx : bootBuiltins y = some (.type T2)) (ha : DE X E a fa)
    (nx : x ≠ "__name__" := by decide) (dx : (x == ("__debug__" : Str)) = false := by decide) (ny : y ≠ "__name__" := by decide) (dy : (y == ("__debug__" : Str)) = false := by decide)
    (he : starEach [a, .Tuple [.Name x q1, .Name y q2] k tpos] X.env = (false, eval a X.env) :: starEach [.Tuple [.Name x q1, .Name y q2] k tpos] X.env := by rfl) :
    DE X E (.Call (.Name "isinstance" p) [a, .Tuple [.Name x q1, .Name y q2] k tpos] [] pos) (dIsiT [T, T2] fa) :=
  (pe_callB call_isiT hg hm (show bootBuiltins "isinstance" = some (.builtin "isinstance") by decide +kernel) (pa_cons ha (pa_cons (pe_tup (pa_cons (pe_bltn (v := .ty T) gx mx bx rfl nx dx) (pa_cons (pe_bltn (v := .ty T2) gy my yx rfl ny dy) pa_nil))) pa_nil) he) (by decide) (by decide) he).imp fun σ H Q ⟨as, δ, S, sr, er, w⟩ =>
    ⟨as, δ, S, sr, er, w.bind.mono fun _ _ _ H1 v _ _ _ _ ⟨as1, S1, d1, _, x1, s1, r1, w1⟩ => by
      split at w1
      · rename_i t e
        refine ⟨by show 2 ≤ sizeLine; decide, fun tp n => ⟨v, tp, [.ty T, .ty T2], _, [.type T, .type T2], _, rfl, upd_same, .cons (.ty T) (.cons (.ty T2) .nil), tyName_ty (s1.new n) (r1.mono (ext_new s1 n).w) e, kit_any (tyName_in e) (Ts := [T, T2]) ?_, ?_⟩⟩
        · intro U hU
          rcases List.mem_cons.mp hU with rfl | hU
          · exact hT
          · rw [List.mem_singleton.mp hU]; exact hT2
        · exact w1 _ _ _ (ext_new s1 n) (s1.new n) (.bl _)
      · exact w1.elim⟩
end
end
end DL
namespace DL
noncomputable section
open PySem PySem.Spec PyProof.Rows L2

/-! ### targets: names and tuples of them -/
inductive Pat where
  | nm (i : Nat) | tp (ps : List Pat)
mutual
def Pat.set : Pat → DV → Sig → Option Sig
  | .nm i, d, δ => some (δ.set i (some d))
  | .tp ps, d, δ => match d with
    | .p (.tup xs) => Pat.sets ps (xs.map DV.p) δ
    | .p (.lst xs) => Pat.sets ps (xs.map DV.p) δ
    | _ => none
def Pat.sets : List Pat → List DV → Sig → Option Sig
  | [], [], δ => some δ
  | q :: qs, x :: xs, δ => (Pat.set q x δ).bind fun δ' => Pat.sets qs xs δ'
  | _, _, _ => none
end
mutual
def Pat.slots : Pat → List Nat
  | .nm i => [i]
  | .tp ps => Pat.slotss ps
def Pat.slotss : List Pat → List Nat
  | [] => []
  | q :: qs => Pat.slots q ++ Pat.slotss qs
end
def gOr (t u : TG) : TG := fun v σ H Q => t v σ H Q ∨ u v σ H Q
mutual
def tPat (K : PySem.W.Frag) : Pat → TG
  | .nm i => gName i
  | .tp ps => gOr (gTup K ps.length (tPats K ps)) (gLst K ps.length (tPats K ps))
def tPats (K : PySem.W.Frag) : List Pat → TGs
  | [] => gNil
  | q :: qs => gCons (tPat K q) (tPats K qs)
end
theorem PG.or {X : Cx} {e : Expr} {t u : TG} (h : PG X e t) (h' : PG X e u) : PG X e (gOr t u) := ⟨fun pins s σ H v w Q I r q => by
  rcases q with q | q
  · exact h.run pins s σ H v w Q I r q
  · exact h'.run pins s σ H v w Q I r q⟩
theorem wipe_set (i : Nat) (v : Option V) : ∀ (vs : List Nat) (σ : L2.St), i ∈ vs → L2.wipe (σ.set i v) vs = L2.wipe σ vs
  | [], _, h => nomatch h
  | j :: vs, σ, h => by
    show (L2.wipe (σ.set i v) vs).set j none = (L2.wipe σ vs).set j none
    by_cases e : i = j
    · subst e
      have go : ∀ (vs : List Nat) (σ : L2.St), (L2.wipe (σ.set i v) vs).set i none = (L2.wipe σ vs).set i none := by
        intro vs
        induction vs with
        | nil => intro σ; show (σ.set i v).set i none = σ.set i none; rw [List.set_set]
        | cons k vs ih =>
          intro σ
          show ((L2.wipe (σ.set i v) vs).set k none).set i none = ((L2.wipe σ vs).set k none).set i none
          by_cases e : k = i
          · subst e; rw [List.set_set, List.set_set]; exact ih σ
          · rw [List.set_comm _ _ e, ih σ, List.set_comm _ _ (Ne.symm e)]
      exact go vs σ
    · rw [wipe_set i v vs σ ((List.mem_cons.mp h).resolve_left e)]
theorem sets_len : ∀ (qs : List Pat) {ps : List DV} {δ δ' : Sig}, Pat.sets qs ps δ = some δ' → ps.length = qs.length
  | [], [], _, _, _ => rfl
  | [], _ :: _, _, _, e => by simp [Pat.sets] at e
  | _ :: _, [], _, _, e => by simp [Pat.sets] at e
  | q :: qs, x :: xs, _, _, e => by
    simp only [Pat.sets, Option.bind_eq_some_iff] at e
    obtain ⟨δ1, e1, e2⟩ := e
    exact congrArg (· + 1) (sets_len qs e2)
section
variable {M : Wd} {as : As} {H : Hp}
theorem PRs.dvrs : ∀ {vs : List V} {ps : List PV}, PRs M as H vs ps → DVRs M as H vs (ps.map DV.p)
  | _, _, .nil => .nil
  | _, _, .cons r t => .cons r (PRs.dvrs t)
theorem KRs.dvrs : ∀ {vs : List V} {ks : List Nat}, KRs as vs ks → DVRs M as H vs (ks.map DV.c)
  | _, _, .nil => .nil
  | _, _, .cons r t => .cons r (KRs.dvrs t)
theorem DVRs.get : ∀ {vs : List V} {ds : List DV} {i : Nat} {d : DV}, DVRs M as H vs ds → ds[i]? = some d → ∃ v, vs[i]? = some v ∧ DVR M as H v d
  | _, _, i, d, .nil, e => by simp at e
  | _, _, 0, d, .cons r _, e => by simp at e; subst e; exact ⟨_, rfl, r⟩
  | _, _, i + 1, d, .cons _ t, e => by
    obtain ⟨u, h1, h2⟩ := DVRs.get (i := i) (d := d) t (by simpa using e)
    exact ⟨u, by simpa using h1, h2⟩
mutual
theorem tPat_ok : ∀ (q : Pat) {v : V} {p : DV} {σ : L2.St} {δ δ' : Sig} {Q : L2.St → Hp → Prop}, ER M as H σ δ → DVR M as H v p → q.set p δ = some δ' →
    (∀ σ', ER M as H σ' δ' → (∀ vs, (∀ i ∈ q.slots, i ∈ vs) → L2.wipe σ' vs = L2.wipe σ vs) → Q σ' H) → tPat M.K q v σ H Q
  | .nm i, v, p, σ, δ, δ', Q, er, r, e, k => by
    simp only [Pat.set, Option.some.injEq] at e
    subst e
    exact k _ (er.set (d := p) r i) fun vs h => wipe_set i _ vs σ (h i (by simp [Pat.slots]))
  | .tp ps, v, p, σ, δ, δ', Q, er, r, e, k => by
    simp only [Pat.set] at e
    split at e
    · rename_i xs
      cases r with
      | tup h t =>
        exact .inl ⟨_, _, rfl, h.sq, t.length.trans ((List.length_map DV.p).symm.trans (sets_len ps e)), tPats_ok ps er t.dvrs e k⟩
    · rename_i xs
      cases r with
      | lst h t =>
        exact .inr ⟨_, _, rfl, h.sq, t.length.trans ((List.length_map DV.p).symm.trans (sets_len ps e)), tPats_ok ps er t.dvrs e k⟩
    · cases e
theorem tPats_ok : ∀ (qs : List Pat) {vs : List V} {ps : List DV} {σ : L2.St} {δ δ' : Sig} {Q : L2.St → Hp → Prop}, ER M as H σ δ → DVRs M as H vs ps → Pat.sets qs ps δ = some δ' →
    (∀ σ', ER M as H σ' δ' → (∀ ws, (∀ i ∈ Pat.slotss qs, i ∈ ws) → L2.wipe σ' ws = L2.wipe σ ws) → Q σ' H) → tPats M.K qs vs σ H Q
  | [], _, [], σ, δ, δ', Q, er, .nil, e, k => by
    simp only [Pat.sets, Option.some.injEq] at e
    subst e
    exact ⟨rfl, k σ er fun _ _ => rfl⟩
  | [], _, _ :: _, σ, δ, δ', Q, er, _, e, k => by simp [Pat.sets] at e
  | q :: qs, _, [], σ, δ, δ', Q, er, _, e, k => by simp [Pat.sets] at e
  | q :: qs, _, x :: xs, σ, δ, δ', Q, er, .cons r t, e, k => by
    simp only [Pat.sets, Option.bind_eq_some_iff] at e
    obtain ⟨δ1, e1, e2⟩ := e
    refine ⟨_, _, rfl, ?_⟩
    exact tPat_ok q er r e1 fun σ1 er1 w1 => tPats_ok qs er1 t e2 fun σ2 er2 w2 => k σ2 er2 fun ws hw => by
      rw [w2 ws fun i hi => hw i (by simp [Pat.slotss, hi]), w1 ws fun i hi => hw i (by simp [Pat.slotss, hi])]
end
end
abbrev DG (X : Cx) (tg : Expr) (q : Pat) : Prop := PG X tg (tPat X.K q)
abbrev DGs (X : Cx) (tgs : List Expr) (qs : List Pat) : Prop := PGs X tgs (tPats X.K qs)
section
variable {X : Cx} {e : Expr} {es : List Expr} {q : Pat} {qs : List Pat} {pos : Pos}
theorem dg_nm {i : Nat} {x : Str} (hN : X.N.Nodup) (hi : X.N[i]? = some x) (hx : Loc X.env.scope x) (hf : X.fn x = true ∨ X.env.scope.names.lookup x = some .local := by first | exact .inl rfl | exact .inr rfl | assumption) : DG X (.Name x pos) (.nm i) := pg_name hN hi hx hf
theorem dgs_nil : DGs X [] [] := pgs_nil
theorem dgs_cons (h : DG X e q) (t : DGs X es qs) (hs : (assignEach (e :: es) X.env).map (·.2) = assign e X.env :: (assignEach es X.env).map (·.2) := by rfl) : DGs X (e :: es) (q :: qs) := pgs_cons h t hs
theorem dg_tp {k : Nat} (hc : X.calm = true) (h : DGs X es qs) (hn : (assignEach es X.env).length = qs.length := by rfl) (hst : (assignEach es X.env).findIdx? (·.1) = none := by rfl) : DG X (.Tuple es k pos) (.tp qs) :=
  PG.or (pg_tup hc h hn hst) (pg_lst hc h hn hst)
end

/-! ### what is walked -/
structure Yields (M : Wd) (J : It) (xs : List DV) (ck : AH → Prop) (as0 : As) (H0 : Hp) : Prop where
  stop : ∀ as H S, Exw as0 H0 as H → SR M as H S → ck S → J.stop xs.length H
  go : ∀ as H S, Exw as0 H0 as H → SR M as H S → ck S → ∀ i, i < xs.length → J.go i H
  yld : ∀ as H S, Exw as0 H0 as H → SR M as H S → ck S → ∀ (i : Nat) (p : DV) (v : V) (H' : Hp), xs[i]? = some p → J.yld i H v H' → Ext as H as H' ∧ SR M as H' S ∧ DVR M as H' v p
abbrev Its' := List DV × (AH → Prop)
def tI (M : Wd) (E : L2.St → XK) (f : Sig → AH → Res Its') : TI := fun σ H R => ∃ as δ S, SR M as H S ∧ ER M as H σ δ ∧ WR M (E σ) (fun as H J (x : Its') => Yields M J x.1 x.2 as H) as H (f δ S) R
abbrev DI (X : Cx) (E : L2.St → XK) (tg e : Expr) (f : Sig → AH → Res Its') : Prop := PI X tg e (tI (wd X) E f)
theorem PI.imp {X : Cx} {tg e : Expr} {t t' : TI} (h : PI X tg e t) (i : ∀ σ H Q, t' σ H Q → t σ H Q) : PI X tg e t' := ⟨fun pins s σ H Q I q => h.run pins s σ H Q I (i σ H Q q)⟩
def iSeq (K : PySem.W.Frag) (tl : TE) : TI := fun σ H R => tl σ H fun x H1 => (∃ a, x = .ref a ∧ (∃ xs, SqL K H1 a xs) ∧ R (Itl K a) H1) ∨ (∃ a, x = .ref a ∧ (∃ xs, SqT K H1 a xs) ∧ R (Itt K a) H1) ∨ (∃ z, x = .str z ∧ R (Its z) H1)
theorem pi_seq {X : Cx} {tg l : Expr} {tl : TE} (hl : PE X l tl) : PI X tg l (iSeq X.K tl) := by
  refine ⟨fun pins s σ H R I h => ?_⟩
  refine thn (hl.run pins s σ H _ I h) fun v s1 ⟨x, H1, I1, r1, q1⟩ => ?_
  rcases q1 with ⟨a, e, ⟨xs, hq⟩, q⟩ | ⟨a, e, ⟨xs, hq⟩, q⟩ | ⟨z, e, q⟩
  · subst e
    cases r1
    obtain ⟨its, rv, p, hz⟩ := I1.list hq
    refine wpAny_pyIter_list p.isList ?_
    refine ⟨s1.heap.objs.size, [s1.heap.objs.size], _, _, H1, rfl, I1.kept (t' := s1.toks) fun b o e => Heap.get?_push_of_some _ e, turn_list a _, ⟨_, Heap.get?_push_size _ rfl, rfl, rfl⟩, fun b hb => ?_, q⟩
    have e : b = s1.heap.objs.size := by simpa using hb
    subst e
    exact I1.fpOk (Nat.le_refl _) (I1.hok.fresh (Nat.le_refl _))
  · subst e
    cases r1
    obtain ⟨its, rv, p, hz⟩ := I1.tuple hq
    refine wpAny_pyIter_tuple (show s1.heap.IsTuple a its.toArray from p) ?_
    refine ⟨s1.heap.objs.size, [s1.heap.objs.size], _, _, H1, rfl, I1.kept (t' := s1.toks) fun b o e => Heap.get?_push_of_some _ e, turn_tuple a _, ⟨_, Heap.get?_push_size _ rfl, rfl, rfl⟩, fun b hb => ?_, q⟩
    have e : b = s1.heap.objs.size := by simpa using hb
    subst e
    exact I1.fpOk (Nat.le_refl _) (I1.hok.fresh (Nat.le_refl _))
  · subst e
    obtain ⟨t, rfl⟩ := r1
    cases ha : z.cps.all (· < 128)
    · exact wpAny_pyIter_wide ha (pi_one (tk := s1.toks) I1 _ (turn_str _ z t "str_iterator" (.inr rfl)) ⟨_, Heap.get?_push_size _ rfl, rfl, rfl⟩ q)
    · exact wpAny_pyIter_ascii ha (pi_one (tk := s1.toks) I1 _ (turn_str _ z t "str_ascii_iterator" (.inl rfl)) ⟨_, Heap.get?_push_size _ rfl, rfl, rfl⟩ q)
/-- the signs of a text -/
def signs (z : Str) : List DV := z.cps.toList.map fun c => .p (.str ⟨#[c]⟩)
def dit (xs : List PV) : List DV := xs.map DV.p
def dic (ks : List Nat) : List DV := ks.map DV.c
@[simp] theorem dit_nil : dit [] = [] := (rfl)
@[simp] theorem dit_cons {x : PV} {xs : List PV} : dit (x :: xs) = .p x :: dit xs := (rfl)
@[simp] theorem dit_len {xs : List PV} : (dit xs).length = xs.length := List.length_map _
@[simp] theorem dic_nil : dic [] = [] := (rfl)
@[simp] theorem dic_cons {k : Nat} {ks : List Nat} : dic (k :: ks) = .c k :: dic ks := (rfl)
@[simp] theorem dic_len {ks : List Nat} : (dic ks).length = ks.length := List.length_map _
def dSeqI (fa : Sig → AH → Res DV) : Sig → AH → Res Its' := fun δ S => (fa δ S).bind fun d S => match d with
  | .p (.tup xs) => .ok (dit xs, fun _ => True) S
  | .p (.lst xs) => .ok (dit xs, fun _ => True) S
  | .p (.fro xs) => .ok (dit xs, fun _ => True) S
  | .p (.str z) => .ok (signs z, fun _ => True) S
  | .c n => match S[n]? with
    | some (.lst xs) => .ok (dit xs, fun S' => S'[n]? = some (.lst xs)) S
    | some (.nst ks) => .ok (dic ks, fun S' => S'[n]? = some (.nst ks)) S
    | _ => .bad
  | _ => .bad
theorem yields_lst {M : Wd} {as0 : As} {H0 : Hp} {a : Addr} {xs : List DV} {ck : AH → Prop} (h : ∀ as H S, Exw as0 H0 as H → SR M as H S → ck S → ∃ vs, SqL M.K H a vs ∧ DVRs M as H vs xs) : Yields M (Itl M.K a) xs ck as0 H0 where
  stop as H S x s c := by
    obtain ⟨vs, q, t⟩ := h as H S x s c
    exact ⟨vs, q, by rw [Paired.length t]; exact Nat.le_refl _⟩
  go as H S x s c i hi := by
    obtain ⟨vs, q, t⟩ := h as H S x s c
    have hi' : i < vs.length := by rw [Paired.length t]; exact hi
    exact ⟨vs, vs[i], q, List.getElem?_eq_getElem hi'⟩
  yld as H S x s c i p v H' hp y := by
    obtain ⟨vs, q, t⟩ := h as H S x s c
    obtain ⟨e, y⟩ := y
    subst e
    obtain ⟨w, e1, r⟩ := DVRs.get t hp
    rw [y vs q] at e1; cases e1
    exact ⟨Ext.refl _ _, s, r⟩
theorem yields_tup {M : Wd} {as0 : As} {H0 : Hp} {a : Addr} {xs : List DV} {ck : AH → Prop} (h : ∀ as H S, Exw as0 H0 as H → SR M as H S → ck S → ∃ vs, SqT M.K H a vs ∧ DVRs M as H vs xs) : Yields M (Itt M.K a) xs ck as0 H0 where
  stop as H S x s c := by
    obtain ⟨vs, q, t⟩ := h as H S x s c
    exact ⟨vs, q, by rw [Paired.length t]; exact Nat.le_refl _⟩
  go as H S x s c i hi := by
    obtain ⟨vs, q, t⟩ := h as H S x s c
    have hi' : i < vs.length := by rw [Paired.length t]; exact hi
    exact ⟨vs, vs[i], q, List.getElem?_eq_getElem hi'⟩
  yld as H S x s c i p v H' hp y := by
    obtain ⟨vs, q, t⟩ := h as H S x s c
    obtain ⟨e, y⟩ := y
    subst e
    obtain ⟨w, e1, r⟩ := DVRs.get t hp
    rw [y vs q] at e1; cases e1
    exact ⟨Ext.refl _ _, s, r⟩
theorem yields_str {M : Wd} {as0 : As} {H0 : Hp} {z : Str} {ck : AH → Prop} : Yields M (Its z) (signs z) ck as0 H0 where
  stop as H S x s c := by
    show z.cps.size ≤ (signs z).length
    unfold signs
    simp
  go as H S x s c i hi := by
    show i < z.cps.size
    unfold signs at hi
    simpa using hi
  yld as H S x s c i p v H' hp y := by
    obtain ⟨e, cc, e1, e2⟩ := y
    subst e e2
    unfold signs at hp
    rw [List.getElem?_map, Array.getElem?_toList, e1] at hp
    cases hp
    exact ⟨Ext.refl _ _, s, PR.str _⟩
/-- lo, lo + 1, .. -/
def rangeI (lo : Int) (n : Nat) : List DV := (List.range n).map fun (i : Nat) => DV.p (.int (lo + (i : Int)))
def rangeC (lo c : Int) (n : Nat) : List DV := (List.range n).map fun (i : Nat) => DV.p (.int (lo + (i : Int) * c))
theorem yields_rng {M : Wd} {as0 : As} {H0 : Hp} {lo : Int} {n : Nat} {ck : AH → Prop} : Yields M (Itr lo n) (rangeI lo n) ck as0 H0 where
  stop as H S x s c := by
    show n ≤ (rangeI lo n).length
    unfold rangeI
    simp
  go as H S x s c i hi := by
    show i < n
    unfold rangeI at hi
    simpa using hi
  yld as H S x s c i p v H' hp y := by
    obtain ⟨e, e2⟩ := y
    subst e e2
    unfold rangeI at hp
    have hi : i < n := by
      have := (List.getElem?_eq_some_iff.mp hp).1
      simpa using this
    rw [List.getElem?_map, List.getElem?_range hi] at hp
    cases hp
    exact ⟨Ext.refl _ _, s, PR.int _⟩
theorem yields_rngC {M : Wd} {as0 : As} {H0 : Hp} {lo cc : Int} {n : Nat} {ck : AH → Prop} : Yields M (Itc lo cc n) (rangeC lo cc n) ck as0 H0 where
  stop as H S x s c := by
    show n ≤ (rangeC lo cc n).length
    unfold rangeC
    simp
  go as H S x s c i hi := by
    show i < n
    unfold rangeC at hi
    simpa using hi
  yld as H S x s c i p v H' hp y := by
    obtain ⟨e, e2⟩ := y
    subst e e2
    unfold rangeC at hp
    have hi : i < n := by
      have := (List.getElem?_eq_some_iff.mp hp).1
      simpa using this
    rw [List.getElem?_map, List.getElem?_range hi] at hp
    cases hp
    exact ⟨Ext.refl _ _, s, PR.int _⟩
def small62 (i : Int) : Prop := -(2 ^ 62) ≤ i ∧ i < 2 ^ 62
noncomputable instance (i : Int) : Decidable (small62 i) := Classical.propDecidable _
def dRng1 (fs : Sig → AH → Res (List DV)) : Sig → AH → Res Its' := fun δ S => (fs δ S).bind fun ds S => match ds with
  | [.p (.int j)] => if small62 j then .ok (rangeI 0 j.toNat, fun _ => True) S else .bad
  | _ => .bad
def dRng2 (fs : Sig → AH → Res (List DV)) : Sig → AH → Res Its' := fun δ S => (fs δ S).bind fun ds S => match ds with
  | [.p (.int i), .p (.int j)] => if small62 i ∧ small62 j then .ok (rangeI i (j - i).toNat, fun _ => True) S else .bad
  | _ => .bad
/-- downwards by ones -/
def dRng3 (fs : Sig → AH → Res (List DV)) : Sig → AH → Res Its' := fun δ S => (fs δ S).bind fun ds S => match ds with
  | [.p (.int i), .p (.int j), .p (.int c)] => if c = -1 ∧ small62 i ∧ small62 j then .ok (rangeC i (-1) (i - j).toNat, fun _ => True) S else .bad
  | _ => .bad
section
variable {X : Cx} {E : L2.St → XK} {tg a b c : Expr} {p pos : Pos} {fa : Sig → AH → Res DV} {fs : Sig → AH → Res (List DV)}
theorem di_seq (ha : DE X E a fa) : DI X E tg a (dSeqI fa) := PI.imp (pi_seq ha) fun σ H R ⟨as, δ, S, sr, er, w⟩ =>
  ⟨as, δ, S, sr, er, w.bind.mono fun _ _ _ H1 v _ _ _ _ ⟨as1, S1, d1, _, x1, s1, r1, w1⟩ => by
    split at w1
    · cases r1 with
      | tup h t => exact .inr (.inl ⟨_, rfl, ⟨_, h.sq⟩, WR.pure w1 s1 (yields_tup fun as H S x s c => ⟨_, (h.mono x).sq, (t.mono x).dvrs⟩)⟩)
    · cases r1 with
      | lst h t => exact .inl ⟨_, rfl, ⟨_, h.sq⟩, WR.pure w1 s1 (yields_lst fun as H S x s c => ⟨_, (h.mono x).sq, (t.mono x).dvrs⟩)⟩
    · cases r1 with
      | fro h t => exact .inl ⟨_, rfl, ⟨_, h.sq⟩, WR.pure w1 s1 (yields_lst fun as H S x s c => ⟨_, (h.mono x).sq, (t.mono x).dvrs⟩)⟩
    · cases r1
      exact .inr (.inr ⟨_, rfl, WR.pure w1 s1 yields_str⟩)
    · obtain ⟨a, ea, rfl⟩ := r1
      split at w1
      · rename_i xs q
        obtain ⟨b, vs, eb, z, hb, t⟩ := s1.at q
        rw [ea] at eb; cases eb
        refine .inl ⟨_, rfl, ⟨_, .of hb⟩, WR.pure w1 s1 (yields_lst fun as H S x s c => ?_)⟩
        obtain ⟨b, vs, eb, z, hb, t⟩ := s.at c
        rw [x.get ea] at eb; cases eb
        exact ⟨_, .of hb, t.dvrs⟩
      · rename_i ks q
        obtain ⟨b, vs, eb, z, hb, t⟩ := s1.atN q
        rw [ea] at eb; cases eb
        refine .inl ⟨_, rfl, ⟨_, .of hb⟩, WR.pure w1 s1 (yields_lst fun as H S x s c => ?_)⟩
        obtain ⟨b, vs, eb, z, hb, t⟩ := s.atN c
        rw [x.get ea] at eb; cases eb
        exact ⟨_, .of hb, KRs.dvrs t⟩
      · exact w1.elim
    · exact w1.elim⟩
theorem di_rng1 (hg : Gl X "range") (hm : X.mg "range" = none) (ha : DA X E [a] fs) (hs : starEach [a] X.env = [(false, eval a X.env)] := by rfl) : DI X E tg (.Call (.Name "range" p) [a] [] pos) (dRng1 fs) := PI.imp (pi_range1 hg hm ha hs) fun σ H R ⟨as, δ, S, sr, er, w⟩ =>
  ⟨as, δ, S, sr, er, w.bind.mono fun _ _ _ H1 v _ _ _ _ ⟨as1, S1, d1, _, x1, s1, r1, w1⟩ => by
    split at w1
    · obtain ⟨v, rfl, r⟩ := DVRs.one r1
      cases r
      split at w1
      · rename_i z
        exact ⟨_, rfl, z.1, z.2, WR.pure w1 s1 yields_rng⟩
      · exact w1.elim
    · exact w1.elim⟩
theorem di_rng2 (hg : Gl X "range") (hm : X.mg "range" = none) (ha : DA X E [a, b] fs) (hs : starEach [a, b] X.env = [(false, eval a X.env), (false, eval b X.env)] := by rfl) (hs2 : starEach [b] X.env = [(false, eval b X.env)] := by rfl) : DI X E tg (.Call (.Name "range" p) [a, b] [] pos) (dRng2 fs) := PI.imp (pi_range2 hg hm ha hs hs2) fun σ H R ⟨as, δ, S, sr, er, w⟩ =>
  ⟨as, δ, S, sr, er, w.bind.mono fun _ _ _ H1 v _ _ _ _ ⟨as1, S1, d1, _, x1, s1, r1, w1⟩ => by
    split at w1
    · obtain ⟨v, v2, rfl, r, r'⟩ := DVRs.two r1
      cases r; cases r'
      split at w1
      · rename_i z
        exact ⟨_, _, rfl, ⟨z.1.1, z.1.2, z.2.1, z.2.2⟩, WR.pure w1 s1 yields_rng⟩
      · exact w1.elim
    · exact w1.elim⟩
theorem DVRs.three {M : Wd} {as : As} {H : Hp} {vs : List V} {d e f : DV} (r : DVRs M as H vs [d, e, f]) : ∃ v w u, vs = [v, w, u] ∧ DVR M as H v d ∧ DVR M as H w e ∧ DVR M as H u f := by
  cases r with
  | cons h t =>
    obtain ⟨w, u, rfl, h2, h3⟩ := DVRs.two t
    exact ⟨_, _, _, rfl, h, h2, h3⟩
theorem di_rng3 (hg : Gl X "range") (hm : X.mg "range" = none) (ha : DA X E [a, b, c] fs) (hs : starEach [a, b, c] X.env = (false, eval a X.env) :: starEach [b, c] X.env := by rfl) (hpl : (backTo pos (starEach [b, c] X.env)).any (·.1) = false := by rfl) : DI X E tg (.Call (.Name "range" p) [a, b, c] [] pos) (dRng3 fs) := PI.imp (pi_range3 hg hm ha hs hpl) fun σ H R ⟨as, δ, S, sr, er, w⟩ =>
  ⟨as, δ, S, sr, er, w.bind.mono fun _ _ _ H1 v _ _ _ _ ⟨as1, S1, d1, _, x1, s1, r1, w1⟩ => by
    split at w1
    · obtain ⟨v, v2, v3, rfl, r, r', r''⟩ := DVRs.three r1
      cases r; cases r'; cases r''
      split at w1
      · rename_i z
        obtain ⟨rfl, z1, z2⟩ := z
        exact ⟨_, _, _, _, rfl, RgC.neg z1.1 z1.2 z2.1 z2.2, WR.pure w1 s1 yields_rngC⟩
      · exact w1.elim
    · exact w1.elim⟩
end
end
end DL
namespace DL
noncomputable section
open PySem PySem.Spec PyProof.Rows L2

/-! ### what a body may let out -/
structure Gd (X : Cx) (E : L2.St → XK) : Prop where
  calm : X.calm = true
  tk : Takes X (fun cls d σ H => E σ cls d H)
  po : PassesOwn (model X.prog X.w) X.A X.env X.xe
theorem Gd.pass {X : Cx} {E : L2.St → XK} (g : Gd X E) (σ : L2.St) : PassesAt (L2.CX X.prog X.w) X σ (E σ) := passAt (W := fun cls d σ H => E σ cls d H) g.tk σ
abbrev EN : L2.St → XK := fun _ _ _ _ => False
theorem Gd.blk {X : Cx} {E : L2.St → XK} (g : Gd X E) (s : Shared) (H : Hp) (scope : Scope) (cenv : Env) (fp : List Addr) : Gd (X.blk s H scope cenv fp) EN := ⟨g.calm, takes0, .never⟩

/-! ### calls of defs -/
def spD (B : Wd) (F : List DV → AH → Res DV) : Sp := fun vs H Q E => ∃ as ds S, SR B as H S ∧ DVRs B as H vs ds ∧ WR B E (DVR B) as H (F ds S) Q
def dCall (F : List DV → AH → Res DV) (fs : Sig → AH → Res (List DV)) : Sig → AH → Res DV := fun δ S => (fs δ S).bind fun ds S => F ds S
section
variable {X : Cx} {E : L2.St → XK} {k : Nat} {f : Addr} {fd : FuncData} {ps : List Str} {F : List DV → AH → Res DV} {x : Str} {p pos : Pos} {a : Expr} {es : List Expr} {fs : Sig → AH → Res (List DV)}
theorem de_call (g : Gd X E) (G : FnOk X.prog X.w X.K X.mg X.base (L2.CX X.prog X.w) k f fd ps (spD ⟨X.K, X.mg⟩ F)) (hr : Room k X.A) (hg : Gl X x) (hm : X.mg x = some (.ref f)) (hk : PySem.W.keepIn X.K (.ref f) = true) (hb : Binds X.K fd ps [])
    (ha : DA X E (a :: es) fs) (hdb : (x == ("__debug__" : Str)) = false := by decide) (he : starEach (a :: es) X.env = (false, eval a X.env) :: starEach es X.env := by rfl) (hpl : (backTo pos (starEach es X.env)).any (·.1) = false := by rfl) :
    DE X E (.Call (.Name x p) (a :: es) [] pos) (dCall F fs) := (pe_callS G hr hg hm hk hb (fun σ => g.pass σ) ha hdb he hpl).imp fun σ H Q ⟨as, δ, S, sr, er, w⟩ =>
  ⟨as, δ, S, sr, er, w.bind.mono fun _ _ _ _ _ _ _ _ _ ⟨as1, S1, ds, _, x1, s1, r1, w1⟩ => ⟨as1, ds, S1, s1, r1, w1⟩⟩
end

/-! ### comprehensions -/
/-- within a comprehension nothing may be raised -/
def _root_.DL.Res.nox {α : Type} : Res α → Res α
  | .exc _ _ _ => .bad
  | r => r
@[simp] theorem nox_ok {α : Type} (a : α) (S : AH) : (Res.ok a S).nox = .ok a S := rfl
@[simp] theorem nox_bad {α : Type} : (Res.bad : Res α).nox = .bad := rfl
@[simp] theorem nox_exc {α : Type} (c : Str) (p : List (Str × PV)) (S : AH) : (Res.exc c p S : Res α).nox = .bad := rfl
open Classical in
/-- a comprehension's turns -/
noncomputable def lcGo (ck : AH → Prop) (q : Pat) (fc : Sig → AH → Res Bool) (fe : Sig → AH → Res DV) (δ : Sig) : List DV → AH → Res (List PV)
  | [], S => if ck S then .ok [] S else .bad
  | x :: xs, S => if ck S then match q.set x δ with
    | none => .bad
    | some δ2 => (fc δ2 S).nox.bind fun b S1 => if b = true then (fe δ2 S1).nox.bind fun d S2 => match d with
        | .p y => (lcGo ck q fc fe δ xs S2).bind fun ys S3 => .ok (y :: ys) S3
        | .c _ => .bad
      else lcGo ck q fc fe δ xs S1
    else .bad
noncomputable def dLc (fi : Sig → AH → Res Its') (q : Pat) (fc : Sig → AH → Res Bool) (fe : Sig → AH → Res DV) (vs : List Nat) : Sig → AH → Res (List PV) := fun δ S => (fi δ S).bind fun x S1 => if x.1.length ≤ 16777216 then lcGo x.2 q fc fe (wipeD δ vs) x.1 S1 else .bad
def dYes : Sig → AH → Res Bool := fun _ S => .ok true S
abbrev DTs (X : Cx) (E : L2.St → XK) (cs : List Expr) (f : Sig → AH → Res Bool) : Prop := PTs X cs (tDT (wd X) E f)
section
variable {X : Cx} {E : L2.St → XK} {c : Expr} {fc : Sig → AH → Res Bool}
theorem dts_nil : DTs X E [] dYes := ⟨fun pins s σ H Q I ⟨as, δ, S, sr, er, w⟩ => pts_nil.run pins s σ H Q I (WR.pure (b := true) w sr rfl)⟩
theorem dts_one (h : DT X E c fc) : DTs X E [c] fc := pts_one h
end
/-- exceptions never come -/
theorem WF.nox {M : Wd} {E0 E1 : XK} {as : As} {H : Hp} {α β : Type} {R : As → Hp → β → α → Prop} {r : Res α} {k : α → AH → Res (List PV)} {Q : VK} {Q' : β → Hp → Prop} (w : WF M E0 as H (r.nox.bind k) Q)
    (h : ∀ a S, r = .ok a S → WF M E0 as H (k a S) Q → ∀ as' H' b, Ext as H as' H' → SR M as' H' S → R as' H' b a → Q' b H') : ∀ {as2 H2}, as2 = as → H2 = H → WR M E1 R as2 H2 r Q' := by
  rintro _ _ rfl rfl
  cases r with
  | ok a S => exact fun as' H' b e s q => h a S rfl w as' H' b e s q
  | exc c p S => exact w.elim
  | bad => exact w.elim
theorem nox_cases {α β : Type} {r : Res α} {k : α → AH → Res β} (P : Res β → Prop) (hb : P .bad → False) (w : P (r.nox.bind k)) : ∃ a S, r = .ok a S ∧ P (k a S) := by
  cases r with
  | ok a S => exact ⟨a, S, rfl, w⟩
  | exc c p S => exact (hb w).elim
  | bad => exact (hb w).elim
theorem wipe_idem : ∀ (vs : List Nat) (σ : L2.St), L2.wipe (L2.wipe σ vs) vs = L2.wipe σ vs
  | [], _ => rfl
  | v :: vs, σ => by
    show (L2.wipe ((L2.wipe σ vs).set v none) vs).set v none = (L2.wipe σ vs).set v none
    have go : ∀ (us : List Nat) (τ : L2.St), (L2.wipe (τ.set v none) us).set v none = (L2.wipe τ us).set v none := by
      intro us
      induction us with
      | nil => intro τ; show (τ.set v none).set v none = τ.set v none; rw [List.set_set]
      | cons k us ih =>
        intro τ
        show ((L2.wipe (τ.set v none) us).set k none).set v none = ((L2.wipe τ us).set k none).set v none
        by_cases e : k = v
        · subst e; rw [List.set_set, List.set_set]; exact ih τ
        · rw [List.set_comm _ _ e, ih τ, List.set_comm _ _ (Ne.symm e)]
    rw [go vs (L2.wipe σ vs), wipe_idem vs σ]
theorem bind_assoc' {α β γ : Type} (r : Res α) (k : α → AH → Res β) (l : β → AH → Res γ) : (r.bind k).bind l = r.bind fun a S => (k a S).bind l := by cases r <;> rfl
section
variable {X : Cx} {E : L2.St → XK} {elt tg iter : Expr} {ifs : List Expr} {scope : Scope} {own : List (Str × Nat)} {pos : Pos} {fi : Sig → AH → Res Its'} {q : Pat} {fc : Sig → AH → Res Bool} {fe : Sig → AH → Res DV}
theorem lc_t {σ : L2.St} {H : Hp} {Q : VK} {as : As} {δ : Sig} {S : AH} {vs : List Nat} (hq : ∀ i ∈ q.slots, i ∈ vs) (sr : SR (wd X) as H S) (er : ER (wd X) as H σ δ) (w : WF (wd X) (E σ) as H (dLc fi q fc fe vs δ S) Q) :
    tLc (tI (wd X) E fi) (tPat X.K q) (tDT (wd X) EN fc) (tD (wd X) EN fe) vs σ H Q := by
  refine ⟨as, δ, S, sr, er, (WF.bind w).mono fun _ _ _ H1 J _ _ _ _ ⟨as1, S1, x, _, e1, s1, y1, w1⟩ => ?_⟩
  obtain ⟨xs, ck⟩ := x
  intro D nD
  have er1 := er.mono e1.w
  have nh : ¬ as1.hid D := (s1.fresh nD).2
  dsimp only at w1 y1
  have hz : xs.length ≤ 16777216 := by
    refine Classical.byContradiction fun n => ?_
    rw [if_neg n] at w1
    exact w1
  rw [if_pos hz] at w1
  refine ⟨fun i m H => m = xs.length - i ∧ i ≤ xs.length ∧ ∃ (asm : As) (Sm : AH) (accV : List V) (accP : List PV), H D = some (.lst accV) ∧ accV.length ≤ i ∧ Ext as1 H1 asm (del H D) ∧ SR (wd X) asm (del H D) Sm ∧ PRs (wd X) asm (del H D) accV accP ∧
      WF (wd X) (E σ) asm (del H D) ((lcGo ck q fc fe (wipeD δ vs) (xs.drop i) Sm).bind fun ys S => .ok (accP ++ ys) S) Q, ⟨xs.length, rfl, Nat.zero_le _, as1, S1, [], [], upd_same, Nat.zero_le _, ?_⟩, ?_⟩
  · rw [del_upd nD]
    refine ⟨Ext.refl _ _, s1, .nil, ?_⟩
    rw [List.drop_zero]
    have e : ((lcGo ck q fc fe (wipeD δ vs) xs S1).bind fun ys S => Res.ok ([] ++ ys) S) = lcGo ck q fc fe (wipeD δ vs) xs S1 := by
      cases lcGo ck q fc fe (wipeD δ vs) xs S1 <;> rfl
    rw [e]
    exact w1
  · rintro i m H2 ⟨rfl, hi, asm, Sm, accV, accP, hD, hlen, em, sm, tm, wm⟩
    have eH : upd (del H2 D) D (.lst accV) = H2 := upd_del hD
    have nm : del H2 D D = none := del_same _ _
    have nhm : ¬ asm.hid D := by rw [em.hids]; exact nh
    have sh : SR (wd X) (asm.hide D) H2 Sm := by have := sm.hide (o := .lst accV) nm; rw [eH] at this; exact this
    have xw : Exw as1 H1 (asm.hide D) H2 := by have := em.w.hide (o := .lst accV) nD; rw [eH] at this; exact this
    by_cases hlt : i < xs.length
    · have hx : xs[i]? = some xs[i] := List.getElem?_eq_getElem hlt
      have hd : xs.drop i = xs[i] :: xs.drop (i + 1) := List.drop_eq_getElem_cons hlt
      rw [hd] at wm
      unfold lcGo at wm
      have hck : ck Sm := by
        refine Classical.byContradiction fun n => ?_
        rw [if_neg n] at wm
        exact wm
      rw [if_pos hck] at wm
      refine .inr ⟨y1.go _ _ _ xw sh hck i hlt, fun H' => (i + 1 ≤ xs.length ∧ ∃ (asm : As) (Sm : AH) (accV : List V) (accP : List PV), H' D = some (.lst accV) ∧ accV.length ≤ i + 1 ∧ Ext as1 H1 asm (del H' D) ∧ SR (wd X) asm (del H' D) Sm ∧ PRs (wd X) asm (del H' D) accV accP ∧
        WF (wd X) (E σ) asm (del H' D) ((lcGo ck q fc fe (wipeD δ vs) (xs.drop (i + 1)) Sm).bind fun ys S => .ok (accP ++ ys) S) Q), fun H' n => ⟨xs.length - (i + 1), by omega, rfl, n.1, n.2⟩, fun v H' yv => ?_⟩
      obtain ⟨e3, s3, r3⟩ := y1.yld _ _ _ xw sh hck i _ v H' hx yv
      cases eq : q.set xs[i] (wipeD δ vs) with
      | none => rw [eq] at wm; exact wm.elim
      | some δ2 =>
        rw [eq] at wm
        dsimp only at wm
        rw [bind_assoc'] at wm
        have erh : ER (wd X) (asm.hide D) H' (L2.wipe σ vs) (wipeD δ vs) := ((er1.mono xw).wipe vs).mono e3.w
        refine tPat_ok (M := wd X) q erh r3 eq fun σ2 er2 wi2 => ⟨by rw [wi2 vs hq, wipe_idem], ?_⟩
        obtain ⟨b, Sb, eb, wb⟩ := nox_cases (fun r => WF (wd X) (E σ) asm (del H2 D) r Q) (fun z => z) wm
        refine ⟨asm.hide D, δ2, Sm, s3, er2, ?_⟩
        rw [eb]
        intro as4 H4 b4 e4 s4 q4
        cases q4
        have ec : Ext (asm.hide D) (upd (del H2 D) D (.lst accV)) as4 H4 := by rw [eH]; exact e3.trans e4
        cases b with
        | false =>
          rw [if_neg Bool.false_ne_true] at wb ⊢
          obtain ⟨u1, u2, u3⟩ := Ext.unhide nm nhm ec
          rw [u2] at s4
          exact ⟨hlt, ⟨as4.cells, asm.hid⟩, Sb, accV, accP, u3, by omega, em.trans u1, s4.unhide nhm ⟨_, u3⟩, tm.mono u1.w, WF.later u1 wb⟩
        | true =>
          rw [if_pos rfl] at wb ⊢
          rw [bind_assoc'] at wb
          obtain ⟨d, Sd, ed, wd'⟩ := nox_cases (fun r => WF (wd X) (E σ) asm (del H2 D) r Q) (fun z => z) wb
          refine ⟨as4, δ2, Sb, s4, er2.mono e4.w, ?_⟩
          rw [ed]
          intro as5 H5 y e5 s5 r5
          have ec5 : Ext (asm.hide D) (upd (del H2 D) D (.lst accV)) as5 H5 := ec.trans e5
          obtain ⟨u1, u2, u3⟩ := Ext.unhide nm nhm ec5
          rw [u2] at s5 r5
          cases d with
          | c n => exact wd'.elim
          | p yv =>
            refine ⟨accV, u3, ?_, hlt, ⟨as5.cells, asm.hid⟩, Sd, accV ++ [y], accP ++ [yv], upd_same, by rw [List.length_append, List.length_singleton]; omega, ?_⟩
            · have hs : sizeLine = 16777216 := by decide
              omega
            rw [del_updu]
            refine ⟨em.trans u1, s5.unhide nhm ⟨_, u3⟩, (tm.mono u1.w).append (.cons (PR.unhide r5) .nil), ?_⟩
            have e : ((lcGo ck q fc fe (wipeD δ vs) (xs.drop (i + 1)) Sd).bind fun ys S => Res.ok (accP ++ [yv] ++ ys) S) = ((lcGo ck q fc fe (wipeD δ vs) (xs.drop (i + 1)) Sd).bind fun ys S => Res.ok (yv :: ys) S).bind fun ys S => Res.ok (accP ++ ys) S := by
              cases lcGo ck q fc fe (wipeD δ vs) (xs.drop (i + 1)) Sd <;> simp [Res.bind]
            rw [e]
            exact WF.later u1 wd'
    · have hi' : i = xs.length := by omega
      subst hi'
      rw [List.drop_length] at wm
      unfold lcGo at wm
      have hck : ck Sm := by
        refine Classical.byContradiction fun n => ?_
        rw [if_neg n] at wm
        exact wm
      rw [if_pos hck] at wm
      refine .inl ⟨y1.stop _ _ _ xw sh hck, ?_⟩
      have wq : WF (wd X) (E σ) asm (del H2 D) (Res.ok (accP ++ []) Sm) Q := wm
      rw [List.append_nil] at wq
      have := wq.here sm (by have hs : sizeLine = 16777216 := by decide
                             omega) tm nm
      rw [eH] at this
      exact this
theorem fe_lc (g : Gd X E) (hN : X.N.Nodup) (hi : DI X E tg iter fi) (ok : BlkOk X.N X.env.scope scope own)
    (hg : ∀ (s : Shared) (H : Hp) (C : Addr) (cl : List (Str × Addr)) (fp : List Addr), DG (X.blk s H scope (compEnvC scope cl C X.env) fp) tg q) (ht : ∀ (s : Shared) (H : Hp) (C : Addr) (cl : List (Str × Addr)) (fp : List Addr), DTs (X.blk s H scope (compEnvC scope cl C X.env) fp) EN ifs fc)
    (he : ∀ (s : Shared) (H : Hp) (C : Addr) (cl : List (Str × Addr)) (fp : List Addr), DE (X.blk s H scope (compEnvC scope cl C X.env) fp) EN elt fe) (hq : ∀ i ∈ q.slots, i ∈ own.map (·.2)) (hs : ∀ x, foldedSetIterable iter X.env x = pure x := by intro _; rfl) :
    FE X E (.ListComp elt [⟨tg, iter, ifs, 0⟩] scope pos) (dLc fi q fc fe (own.map (·.2))) :=
  L2.PE.imp (pe_lc g.calm hN hi ok hg ht he hs) fun σ H Q ⟨as, δ, S, sr, er, w⟩ => lc_t hq sr er w
end
end
end DL
namespace DL
noncomputable section
open PySem PySem.Spec PyProof.Rows L2

/-! ### statements -/
def WS (M : Wd) (E : L2.St → XK) (D : Ends) (as : As) (H : Hp) (o : Out) : Prop := match o with
  | .nx δ' S' => ∀ as' H' σ', Ext as H as' H' → SR M as' H' S' → ER M as' H' σ' δ' → D.nx σ' H'
  | .rt d S' => ∀ as' H' v, Ext as H as' H' → SR M as' H' S' → DVR M as' H' v d → D.rt v H'
  | .rtT ds S' => ∀ as' H' v, Ext as H as' H' → SR M as' H' S' → (∃ a vs, v = .ref a ∧ RdT M.K as' H' a vs ∧ DVRs M as' H' vs ds) → D.rt v H'
  | .bk δ' S' => ∀ as' H' σ', Ext as H as' H' → SR M as' H' S' → ER M as' H' σ' δ' → D.bk σ' H'
  | .ct δ' S' => ∀ as' H' σ', Ext as H as' H' → SR M as' H' S' → ER M as' H' σ' δ' → D.ct σ' H'
  | .exc c p δ' S' => ∀ as' H' σ' cls dd, Ext as H as' H' → SR M as' H' S' → ER M as' H' σ' δ' → ExR M as' H' c p cls dd → E σ' cls dd H'
  | .bad => False
def tS (M : Wd) (E : L2.St → XK) (f : Sig → AH → Out) : TS := fun D σ H => ∃ as δ S, SR M as H S ∧ ER M as H σ δ ∧ WS M E D as H (f δ S)
abbrev DS (X : Cx) (E : L2.St → XK) (st : Stmt) (f : Sig → AH → Out) : Prop := PS X st (tS (wd X) E f)
abbrev DSs (X : Cx) (E : L2.St → XK) (st : List Stmt) (f : Sig → AH → Out) : Prop := PSs X st (tS (wd X) E f)
theorem _root_.L2.PS.imp {X : Cx} {e : Stmt} {t t' : TS} (h : PS X e t) (i : ∀ D σ H, t' D σ H → t D σ H) : PS X e t' := ⟨fun pins s σ H D I q => h.run pins s σ H D I (i D σ H q)⟩
theorem _root_.L2.PSs.imp {X : Cx} {e : List Stmt} {t t' : TS} (h : PSs X e t) (i : ∀ D σ H, t' D σ H → t D σ H) : PSs X e t' := ⟨fun pins s σ H D I q => h.run pins s σ H D I (i D σ H q)⟩
def _root_.DL.Res.out {α : Type} (r : Res α) (δ : Sig) (k : α → AH → Out) : Out := match r with
  | .ok a S => k a S
  | .exc c p S => .exc c p δ S
  | .bad => .bad
@[simp] theorem out_ok {α : Type} (a : α) (S : AH) (δ : Sig) (k : α → AH → Out) : (Res.ok a S).out δ k = k a S := rfl
@[simp] theorem out_exc {α : Type} (c : Str) (p : List (Str × PV)) (S : AH) (δ : Sig) (k : α → AH → Out) : (Res.exc c p S : Res α).out δ k = .exc c p δ S := rfl
@[simp] theorem out_bad {α : Type} (δ : Sig) (k : α → AH → Out) : (Res.bad : Res α).out δ k = .bad := rfl
section
variable {M : Wd} {E : L2.St → XK} {D : Ends} {as as' : As} {H H' : Hp} {σ : L2.St} {δ : Sig} {α β : Type} {R : As → Hp → β → α → Prop}
theorem WS.later {o : Out} (x : Ext as H as' H') (w : WS M E D as H o) : WS M E D as' H' o := by
  cases o with
  | nx δ S => exact fun as2 H2 σ e => w as2 H2 σ (x.trans e)
  | rt d S => exact fun as2 H2 σ e => w as2 H2 σ (x.trans e)
  | rtT d S => exact fun as2 H2 σ e => w as2 H2 σ (x.trans e)
  | bk δ S => exact fun as2 H2 σ e => w as2 H2 σ (x.trans e)
  | ct δ S => exact fun as2 H2 σ e => w as2 H2 σ (x.trans e)
  | exc c p δ S => exact fun as2 H2 σ cls dd e => w as2 H2 σ cls dd (x.trans e)
  | bad => exact w
theorem WS.bind {r : Res α} {k : α → AH → Out} (w : WS M E D as H (r.out δ k)) (er : ER M as H σ δ) :
    WR M (E σ) R as H r (fun b H1 => ∃ as1 S1 a, r = .ok a S1 ∧ Ext as H as1 H1 ∧ SR M as1 H1 S1 ∧ R as1 H1 b a ∧ WS M E D as1 H1 (k a S1)) := by
  cases r with
  | ok a S => exact fun as2 H2 b e s q => ⟨as2, S, a, rfl, e, s, q, WS.later e w⟩
  | exc c p S => exact fun as2 H2 cls dd e s q => w as2 H2 σ cls dd e s (er.mono e.w) q
  | bad => exact w
theorem WS.here {S : AH} (w : WS M E D as H (.nx δ S)) (s : SR M as H S) (r : ER M as H σ δ) : D.nx σ H := w as H σ (Ext.refl _ _) s r
theorem WS.ret {d : DV} {S : AH} {v : V} (w : WS M E D as H (.rt d S)) (s : SR M as H S) (r : DVR M as H v d) : D.rt v H := w as H v (Ext.refl _ _) s r
end
def dPass : Sig → AH → Out := fun δ S => .nx δ S
def dBreak : Sig → AH → Out := fun δ S => .bk δ S
def dCont : Sig → AH → Out := fun δ S => .ct δ S
def dNever : Sig → AH → Out := fun _ _ => .bad
def dSeq (f g : Sig → AH → Out) : Sig → AH → Out := fun δ S => match f δ S with
  | .nx δ' S' => g δ' S'
  | o => o
def dDrop (f : Sig → AH → Res DV) : Sig → AH → Out := fun δ S => (f δ S).out δ fun _ S => .nx δ S
def dRet (f : Sig → AH → Res DV) : Sig → AH → Out := fun δ S => (f δ S).out δ fun d S => .rt d S
/-- a tuple that is given back, with cells in it -/
def dRetT (fs : Sig → AH → Res (List DV)) : Sig → AH → Out := fun δ S => (fs δ S).out δ fun ds S => if ds.length ≤ 1000 then .rtT ds S else .bad
def dRetN : Sig → AH → Out := fun _ S => .rt (.p .non) S
def dSet (i : Nat) (f : Sig → AH → Res DV) : Sig → AH → Out := fun δ S => (f δ S).out δ fun d S => .nx (δ.set i (some d)) S
def dAsg (q : Pat) (f : Sig → AH → Res DV) : Sig → AH → Out := fun δ S => (f δ S).out δ fun d S => match d with
  | .p x => match q.set (.p x) δ with
    | some δ' => .nx δ' S
    | none => .bad
  | .c _ => .bad
def dIf (c : Sig → AH → Res Bool) (f g : Sig → AH → Out) : Sig → AH → Out := fun δ S => (c δ S).out δ fun b S => if b = true then f δ S else g δ S
section
variable {X : Cx} {E : L2.St → XK} {st : Stmt} {rest sts sts2 : List Stmt} {e : Expr} {pos : Pos} {f g : Sig → AH → Out} {fe : Sig → AH → Res DV} {fc : Sig → AH → Res Bool} {q : Pat}
theorem dss_nil : DSs X E [] dPass := pss_nil.imp fun D σ H ⟨as, δ, S, sr, er, w⟩ => w.here sr er
theorem dss_cons (h1 : DS X E st f) (h2 : DSs X E rest g) : DSs X E (st :: rest) (dSeq f g) := (pss_cons h1 h2).imp fun D σ H ⟨as, δ, S, sr, er, w⟩ => by
  refine ⟨as, δ, S, sr, er, ?_⟩
  unfold dSeq at w
  split at w
  · rename_i δ1 S1 eq
    rw [eq]
    exact fun as' H' σ' x s r => ⟨as', δ1, S1, s, r, WS.later x w⟩
  · rename_i n
    cases eq : f δ S with
    | nx δ1 S1 => exact absurd eq (n _ _)
    | rt d S1 => rw [eq] at w; exact w
    | rtT d S1 => rw [eq] at w; exact w
    | bk δ1 S1 => rw [eq] at w; exact w
    | ct δ1 S1 => rw [eq] at w; exact w
    | exc c p δ1 S1 => rw [eq] at w; exact w
    | bad => rw [eq] at w; exact w
theorem dss_one (h1 : DS X E st f) : DSs X E [st] f := pss_one h1
theorem ds_pass : DS X E (.Pass pos) dPass := ps_pass.imp fun D σ H ⟨as, δ, S, sr, er, w⟩ => w.here sr er
theorem ds_break : DS X E (.Break pos) dBreak := ps_break.imp fun D σ H ⟨as, δ, S, sr, er, w⟩ => w as H σ (Ext.refl _ _) sr er
theorem ds_cont : DS X E (.Continue pos) dCont := ps_continue.imp fun D σ H ⟨as, δ, S, sr, er, w⟩ => w as H σ (Ext.refl _ _) sr er
theorem ds_never : DS X E st dNever := ps_never.imp fun D σ H ⟨as, δ, S, sr, er, w⟩ => w.elim
theorem dss_never : DSs X E sts dNever := pss_never.imp fun D σ H ⟨as, δ, S, sr, er, w⟩ => w.elim
theorem ds_expr (he : DE X E e fe) (hs : swapsWith e none pos.line X.env = pure false := by rfl) : DS X E (.Expr e pos) (dDrop fe) := (ps_expr he hs).imp fun D σ H ⟨as, δ, S, sr, er, w⟩ =>
  ⟨as, δ, S, sr, er, (w.bind er).mono fun _ _ _ _ _ _ _ _ _ ⟨as1, S1, d1, _, x1, s1, r1, w1⟩ => w1.here s1 (er.mono x1.w)⟩
theorem ds_ret (he : DE X E e fe) : DS X E (.Return (some e) pos) (dRet fe) := (ps_ret he).imp fun D σ H ⟨as, δ, S, sr, er, w⟩ =>
  ⟨as, δ, S, sr, er, (w.bind er).mono fun _ _ _ _ _ _ _ _ _ ⟨as1, S1, d1, _, x1, s1, r1, w1⟩ => w1.ret s1 r1⟩
theorem ds_retT {es : List Expr} {k} {pos' : Pos} {fs : Sig → AH → Res (List DV)} (ha : DA X E es fs) : DS X E (.Return (some (.Tuple es k pos')) pos) (dRetT fs) := (ps_ret (pe_tupZ ha)).imp fun D σ H ⟨as, δ, S, sr, er, w⟩ =>
  ⟨as, δ, S, sr, er, (w.bind er).mono fun _ _ _ _ vs _ _ _ _ ⟨as1, S1, ds, _, x1, s1, r1, w1⟩ => by
    split at w1
    · rename_i z
      have z2 : vs.length ≤ sizeLine := by rw [Paired.length r1]; exact le1000 z
      exact ⟨z2, fun p o n d => w1 as1 _ _ (ext_new s1 n) (s1.new n) ⟨p, vs, rfl, ⟨z2, .inl ⟨⟨o, d, upd_same⟩, s1.fresh n⟩⟩, DVRs.mono (ext_new s1 n).w r1⟩⟩
    · exact w1.elim⟩
theorem ds_retN : DS X E (.Return none pos) dRetN := ps_retN.imp fun D σ H ⟨as, δ, S, sr, er, w⟩ => w.ret sr .non
theorem ds_set {i : Nat} {x : Str} {pos' : Pos} (hN : X.N.Nodup) (hi : X.N[i]? = some x) (hx : Loc X.env.scope x) (he : DE X E e fe) (hs : swapsWith e (some (.Name x pos')) pos.line X.env = pure false := by rfl) (hf : X.fn x = true ∨ X.env.scope.names.lookup x = some .local := by first | exact .inl rfl | exact .inr rfl | assumption) :
    DS X E (.Assign [.Name x pos'] e pos) (dSet i fe) := (ps_set hN hi hx he hs hf).imp fun D σ H ⟨as, δ, S, sr, er, w⟩ =>
  ⟨as, δ, S, sr, er, (w.bind er).mono fun _ _ _ _ _ _ _ _ _ ⟨as1, S1, d1, _, x1, s1, r1, w1⟩ => w1.here s1 ((er.mono x1.w).set r1 i)⟩
theorem ds_asg {tg : Expr} (he : DE X E e fe) (hg : DG X tg q) (hs : swapsWithSole [tg] e pos.line X.env = pure false := by rfl) (hw : swappedStores [tg] e X.env = pure none := by rfl)
    (h1 : (assignEach [tg] X.env).map (·.2) = [assign tg X.env] := by rfl) : DS X E (.Assign [tg] e pos) (dAsg q fe) := (ps_asg he hg hs hw h1).imp fun D σ H ⟨as, δ, S, sr, er, w⟩ =>
  ⟨as, δ, S, sr, er, (w.bind er).mono fun _ _ _ _ _ _ _ _ _ ⟨as1, S1, d1, _, x1, s1, r1, w1⟩ => by
    split at w1
    · split at w1
      · rename_i δ' eq
        exact tPat_ok (M := wd X) q (er.mono x1.w) r1 eq fun σ' er' _ => w1.here s1 er'
      · exact w1.elim
    · exact w1.elim⟩
theorem ds_if {c : Expr} (hc : DT X E c fc) (ha : DSs X E sts f) (hb : DSs X E sts2 g) : DS X E (.If c sts sts2 pos) (dIf fc f g) := (ps_if hc ha hb).imp fun D σ H ⟨as, δ, S, sr, er, w⟩ =>
  ⟨as, δ, S, sr, er, (w.bind er).mono fun _ _ _ _ k _ _ _ _ ⟨as1, S1, d1, _, x1, s1, r1, w1⟩ => by
    cases r1
    cases k with
    | true => exact ⟨as1, δ, S1, s1, er.mono x1.w, w1⟩
    | false => exact ⟨as1, δ, S1, s1, er.mono x1.w, w1⟩⟩
end

/-! ### name = [..] -/
def dSetF (i : Nat) (f : Sig → AH → Res (List PV)) : Sig → AH → Out := dSet i (dVal f)
def dSetC (i : Nat) (f : Sig → AH → Res (List PV)) : Sig → AH → Out := dSet i (dCell f)
section
variable {X : Cx} {E : L2.St → XK} {elt tg iter : Expr} {ifs : List Expr} {scope : Scope} {own : List (Str × Nat)} {pos spos py : Pos} {fi : Sig → AH → Res Its'} {q : Pat} {fc : Sig → AH → Res Bool} {fe : Sig → AH → Res DV} {i : Nat} {y : Str}
theorem ds_setLcV (g : Gd X E) (hN : X.N.Nodup) (hy : X.N[i]? = some y) (hyl : X.env.scope.names.lookup y = some .local)
    (hsw : swapsWith (.ListComp elt [⟨tg, iter, ifs, 0⟩] scope pos) (some (.Name y py)) spos.line X.env = pure true) (hi : DI X E tg iter fi) (ok : BlkOk X.N X.env.scope scope own)
    (hg : ∀ (s : Shared) (H : Hp) (C : Addr) (cl : List (Str × Addr)) (fp : List Addr), DG (X.blk s H scope (compEnvC scope cl C X.env) fp) tg q) (ht : ∀ (s : Shared) (H : Hp) (C : Addr) (cl : List (Str × Addr)) (fp : List Addr), DTs (X.blk s H scope (compEnvC scope cl C X.env) fp) EN ifs fc)
    (he : ∀ (s : Shared) (H : Hp) (C : Addr) (cl : List (Str × Addr)) (fp : List Addr), DE (X.blk s H scope (compEnvC scope cl C X.env) fp) EN elt fe) (hq : ∀ i ∈ q.slots, i ∈ own.map (·.2)) (hs : ∀ x, foldedSetIterable iter X.env x = pure x := by intro _; rfl) :
    DS X E (.Assign [.Name y py] (.ListComp elt [⟨tg, iter, ifs, 0⟩] scope pos) spos) (dSetF i (dLc fi q fc fe (own.map (·.2)))) :=
  (ps_setLc g.calm hN hy hyl hsw hi ok hg ht he hs).imp fun D σ H ⟨as, δ, S, sr, er, w⟩ => lc_t hq sr er (WF.val ((w.bind er).mono fun _ _ _ _ v _ _ _ _ ⟨as1, S1, d1, _, x1, s1, r1, w1⟩ => w1.here s1 ((er.mono x1.w).set r1 i)))
theorem ds_setLcC (g : Gd X E) (hN : X.N.Nodup) (hy : X.N[i]? = some y) (hyl : X.env.scope.names.lookup y = some .local)
    (hsw : swapsWith (.ListComp elt [⟨tg, iter, ifs, 0⟩] scope pos) (some (.Name y py)) spos.line X.env = pure true) (hi : DI X E tg iter fi) (ok : BlkOk X.N X.env.scope scope own)
    (hg : ∀ (s : Shared) (H : Hp) (C : Addr) (cl : List (Str × Addr)) (fp : List Addr), DG (X.blk s H scope (compEnvC scope cl C X.env) fp) tg q) (ht : ∀ (s : Shared) (H : Hp) (C : Addr) (cl : List (Str × Addr)) (fp : List Addr), DTs (X.blk s H scope (compEnvC scope cl C X.env) fp) EN ifs fc)
    (he : ∀ (s : Shared) (H : Hp) (C : Addr) (cl : List (Str × Addr)) (fp : List Addr), DE (X.blk s H scope (compEnvC scope cl C X.env) fp) EN elt fe) (hq : ∀ i ∈ q.slots, i ∈ own.map (·.2)) (hs : ∀ x, foldedSetIterable iter X.env x = pure x := by intro _; rfl) :
    DS X E (.Assign [.Name y py] (.ListComp elt [⟨tg, iter, ifs, 0⟩] scope pos) spos) (dSetC i (dLc fi q fc fe (own.map (·.2)))) :=
  (ps_setLc g.calm hN hy hyl hsw hi ok hg ht he hs).imp fun D σ H ⟨as, δ, S, sr, er, w⟩ => lc_t hq sr er (WF.cell ((w.bind er).mono fun _ _ _ _ v _ _ _ _ ⟨as1, S1, d1, _, x1, s1, r1, w1⟩ => w1.here s1 ((er.mono x1.w).set r1 i)))
end

/-! ### a, b = x, y -/
def dPar (i j : Nat) (fs : Sig → AH → Res (List DV)) : Sig → AH → Out := fun δ S => (fs δ S).out δ fun ds S => match ds with
  | [d, e] => .nx ((δ.set i (some d)).set j (some e)) S
  | _ => .bad
def dPar3 (i j l : Nat) (fs : Sig → AH → Res (List DV)) : Sig → AH → Out := fun δ S => (fs δ S).out δ fun ds S => match ds with
  | [d, e, f] => .nx (((δ.set i (some d)).set j (some e)).set l (some f)) S
  | _ => .bad
section
variable {X : Cx} {E : L2.St → XK} {a b c : Expr} {px py pz pt pos : Pos} {kt k2 : Nat} {pt2 : Pos} {i j l : Nat} {x y z : Str} {fs : Sig → AH → Res (List DV)}
theorem ds_par (hc : X.calm = true) (hN : X.N.Nodup) (hi : X.N[i]? = some x) (hj : X.N[j]? = some y) (hij : i ≠ j)
    (hx : X.env.scope.names.lookup x = some .local) (hy : X.env.scope.names.lookup y = some .local) (ha : DA X E [a, b] fs)
    (hw : swappedStores [.Tuple [.Name x px, .Name y py] kt pt] (.Tuple [a, b] k2 pt2) X.env = pure (some [x, y]))
    (hs : swapsWithSole [.Tuple [.Name x px, .Name y py] kt pt] (.Tuple [a, b] k2 pt2) pos.line X.env = pure false := by rfl) :
    DS X E (.Assign [.Tuple [.Name x px, .Name y py] kt pt] (.Tuple [a, b] k2 pt2) pos) (dPar i j fs) := (ps_par hc hN hi hj hij hx hy ha hw hs).imp fun D σ H ⟨as, δ, S, sr, er, w⟩ =>
  ⟨as, δ, S, sr, er, (w.bind er).mono fun _ _ _ _ _ _ _ _ _ ⟨as1, S1, d1, _, x1, s1, r1, w1⟩ => by
    split at w1
    · obtain ⟨v, v2, rfl, r, r'⟩ := DVRs.two r1
      exact ⟨_, _, rfl, w1.here s1 (((er.mono x1.w).set r i).set r' j)⟩
    · exact w1.elim⟩
end

/-! ### stores -/
/-- o[i] = v -/
def setIx (o i v : DV) (S : AH) : Option AH := match o, i, v with
  | .c n, .p (.int k), .p x => match S[n]? with
    | some (.lst xs) => (ixN xs.length k).map fun j => S.set n (.lst (xs.set j x))
    | _ => none
  | .c n, .p (.int k), .c m => match S[n]? with
    | some (.nst ks) => (ixN ks.length k).map fun j => S.set n (.nst (ks.set j m))
    | _ => none
  | _, _, _ => none
def rSetD (M : Wd) : V → V → V → Hp → (Hp → Prop) → Prop := fun o i v H Q => ∃ as S a b c, SR M as H S ∧ DVR M as H o a ∧ DVR M as H i b ∧ DVR M as H v c ∧ ∃ S', setIx a b c S = some S' ∧ ∀ as' H', Ext as H as' H' → SR M as' H' S' → Q H'
theorem ow_setIx {X : Cx} : PSet X (rSetD (wd X)) := by
  intro pins s σ H o i v ov iv u Q I ro ri rv h
  obtain ⟨as, S, a, b, c, sr, r1, r2, r3, S', e, q⟩ := h
  unfold setIx at e
  split at e
  · obtain ⟨ad, ea, rfl⟩ := r1
    cases r2
    split at e
    · rename_i xs e2
      simp only [Option.map_eq_some_iff] at e
      obtain ⟨j, ej, rfl⟩ := e
      obtain ⟨b2, vs, eb, z, hb, t⟩ := sr.at e2
      rw [ea] at eb; cases eb
      rw [← t.length] at ej
      exact set_list pins s σ H _ _ v ov iv u Q I ro ri rv ⟨_, _, _, j, rfl, rfl, hb, ej, q _ _ (ext_write sr ea hb) (sr.write ea hb (by rw [List.length_set]; exact z) (t.set r3 j))⟩
    · cases e
  · obtain ⟨ad, ea, rfl⟩ := r1
    cases r2
    split at e
    · rename_i ks e2
      simp only [Option.map_eq_some_iff] at e
      obtain ⟨j, ej, rfl⟩ := e
      obtain ⟨b2, vs, eb, z, hb, t⟩ := sr.atN e2
      rw [ea] at eb; cases eb
      rw [← t.length] at ej
      exact set_list pins s σ H _ _ v ov iv u Q I ro ri rv ⟨_, _, _, j, rfl, rfl, hb, ej, q _ _ (ext_write sr ea hb) (sr.writeNest ea hb (by rw [List.length_set]; exact z) (t.set r3 j))⟩
    · cases e
  · cases e
def dSub (fe fo fi : Sig → AH → Res DV) : Sig → AH → Out := fun δ S => (fe δ S).out δ fun v S => (fo δ S).out δ fun o S => (fi δ S).out δ fun i S => match setIx o i v S with
  | some S' => .nx δ S'
  | none => .bad
section
variable {X : Cx} {E : L2.St → XK} {o i e : Expr} {pos tpos : Pos} {fe fo fi : Sig → AH → Res DV}
theorem ds_sub (he : DE X E e fe) (ho : DE X E o fo) (hi : DE X E i fi)
    (hs : swapsWithSole [.Subscript o i tpos] e pos.line X.env = pure false := by rfl) (hw : swappedStores [.Subscript o i tpos] e X.env = pure none := by rfl)
    (h1 : (assignEach [.Subscript o i tpos] X.env).map (·.2) = [assign (.Subscript o i tpos) X.env] := by rfl)
    (ha : ∀ v, assign (.Subscript o i tpos) X.env v = (do
      let ov ← holding [v] (eval o X.env)
      let iv ← holding [v, ov] (eval i X.env)
      standAt tpos
      holding [v, ov, iv] (setItem ov iv v)
      release [v, ov, iv] []) := by intro _; rfl) : DS X E (.Assign [.Subscript o i tpos] e pos) (dSub fe fo fi) :=
  (ps_asg he (pg_sub ho hi ow_setIx ha) hs hw h1).imp fun D σ H ⟨as, δ, S, sr, er, w⟩ =>
  ⟨as, δ, S, sr, er, (w.bind er).mono fun _ _ _ _ _ _ _ _ _ ⟨as1, S1, d1, _, x1, s1, r1, w1⟩ => ⟨as1, δ, S1, s1, er.mono x1.w, (w1.bind (er.mono x1.w)).mono fun _ _ _ _ _ _ _ _ _ ⟨as2, S2, d2, _, x2, s2, r2, w2⟩ =>
    ⟨as2, δ, S2, s2, (er.mono x1.w).mono x2.w, (w2.bind ((er.mono x1.w).mono x2.w)).mono fun _ _ _ _ _ _ _ _ _ ⟨as3, S3, d3, _, x3, s3, r3, w3⟩ => by
      split at w3
      · rename_i S' eq
        exact ⟨as3, S3, d2, d3, d1, s3, r2.mono x3.w, r3, (r1.mono x2.w).mono x3.w, S', eq, fun as' H' x s => w3 as' H' σ x s ((((er.mono x1.w).mono x2.w).mono x3.w).mono x.w)⟩
      · exact w3.elim⟩⟩⟩
end

/-! ### name op= e -/
def dAug (i : Nat) (o : Op2) (fe : Sig → AH → Res DV) : Sig → AH → Out := fun δ S => match δ[i]? with
  | some (some a) => (fe δ S).out δ fun b S => (lift (o a b S)).out δ fun d S => .nx (δ.set i (some d)) S
  | _ => .bad
def rIpD (M : Wd) (o : Op2) : TIp := fun x y H Q => ∃ as S d1 d2, SR M as H S ∧ DVR M as H x d1 ∧ DVR M as H y d2 ∧ WO M as H (o d1 d2 S) Q
def intO2 (f : Int → Int → Int) : Op2 := fun a b S => match a, b with
  | .p (.int i), .p (.int j) => some (.p (.int (f i j)), S)
  | _, _ => none
theorem ow_ip {X : Cx} {op : Operator} {f : Int → Int → Int} (h0 : PIp X op (ipI f)) : PIp X op (rIpD (wd X) (intO2 f)) := by
  intro pins s σ H x y v u Q I rx ry h
  obtain ⟨as, S, d1, d2, sr, r1, r2, w⟩ := h
  unfold intO2 at w
  split at w
  · cases r1; cases r2
    exact h0 pins s σ H _ _ v u Q I rx ry ⟨_, _, rfl, rfl, w.here sr (.int _)⟩
  · exact w.elim
theorem ow_iadd {X : Cx} : PIp X .Add (rIpD (wd X) (intO2 fun i j => i + j)) := ow_ip ip_add
theorem ow_isub {X : Cx} : PIp X .Sub (rIpD (wd X) (intO2 fun i j => i - j)) := ow_ip ip_sub
section
variable {X : Cx} {E : L2.St → XK} {e : Expr} {pos pos' : Pos} {fe : Sig → AH → Res DV} {i : Nat} {x : Str} {op : Operator} {o : Op2}
theorem ds_aug (hN : X.N.Nodup) (hi : X.N[i]? = some x) (hx : Loc X.env.scope x) (he : DE X E e fe) (ho : PIp X op (rIpD (wd X) o)) (hf : X.fn x = true ∨ X.env.scope.names.lookup x = some .local := by first | exact .inl rfl | exact .inr rfl | assumption) :
    DS X E (.AugAssign (.Name x pos') op e pos) (dAug i o fe) := (ps_aug hN hi hx he ho hf).imp fun D σ H ⟨as, δ, S, sr, er, w⟩ => by
  unfold dAug at w
  split at w
  · rename_i a ea
    obtain ⟨v, q, r⟩ := er.get i a ea
    refine ⟨v, q, as, δ, S, sr, er, (w.bind er).mono fun _ _ _ _ _ _ _ _ _ ⟨as1, S1, d1, _, x1, s1, r1, w1⟩ => ?_⟩
    refine ⟨as1, S1, a, d1, s1, r.mono x1.w, r1, ?_⟩
    refine WR.wo (E := E σ) ((w1.bind (er.mono x1.w)).mono fun _ _ _ _ _ _ _ _ _ ⟨as2, S2, d2, _, x2, s2, r2, w2⟩ => ?_)
    exact w2.here s2 (((er.mono x1.w).mono x2.w).set r2 i)
  · exact w.elim
end

/-! ### o[i] op= e, o a list -/
def rGetD (M : Wd) : V → V → Hp → VK → Prop := fun x y H Q => ∃ as S d1 d2 ps i p, SR M as H S ∧ DVR M as H x d1 ∧ DVR M as H y d2 ∧ litems d1 S = some ps ∧ d2 = .p (.int i) ∧ atI ps i = some p ∧ ∀ v, PR M as H v p → Q v H
theorem ow_get {X : Cx} : PGet X (rGetD (wd X)) := by
  intro pins s σ H x y v u Q I rx ry h
  obtain ⟨as, S, d1, d2, ps, i, p, sr, r1, r2, e1, rfl, e2, q⟩ := h
  cases r2
  obtain ⟨a, vs, rfl, z, hq, t⟩ := litems_sq sr r1 e1
  obtain ⟨zv, e3, r3⟩ := atI_prs t e2
  cases rx
  obtain ⟨t', rfl⟩ := ry
  obtain ⟨its, r, pl, hz⟩ := I.list hq
  obtain ⟨j, h1, h2, h3, h4, h5⟩ := atI_get e3
  obtain ⟨w, ew, rw'⟩ := r.get h2
  have hl := r.length
  have hn := line63
  have fin : EP X pins σ Q w s := ⟨zv, H, I, rw', q zv r3⟩
  by_cases h0 : 0 ≤ i
  · have hj : i.toNat = j := by
      rw [seqIndex_of h0 h5] at h1
      exact Option.some.inj h1
    exact wpAny_getItem_list pl.isList h0 (by omega) (by rw [hj]; simpa using ew) fin
  · have hj : (i + (its.toArray.size : Int)).toNat = j := by
      rw [seqIndex_neg (by omega) h4] at h1
      rw [List.size_toArray, ← hl]
      exact Option.some.inj h1
    exact wpAny_getItem_list_neg pl.isList (by omega) (by rw [List.size_toArray] <;> omega) (by omega) (by rw [hj]; simpa using ew) fin
def dAugS (o : Op2) (fo fi fe : Sig → AH → Res DV) : Sig → AH → Out := fun δ S => (fo δ S).out δ fun a S => (fi δ S).out δ fun b S => match b with
  | .p (.int i) => match (litems a S).bind fun ps => atI ps i with
    | some x => (fe δ S).out δ fun y S => (lift (o (.p x) y S)).out δ fun v S => match setIx a b v S with
      | some S' => .nx δ S'
      | none => .bad
    | none => .bad
  | _ => .bad
section
variable {X : Cx} {E : L2.St → XK} {ob i e : Expr} {pos tpos : Pos} {fe fo fi : Sig → AH → Res DV} {op : Operator} {o : Op2}
theorem ds_augS (ho : DE X E ob fo) (hi : DE X E i fi) (he : DE X E e fe) (hp : PIp X op (rIpD (wd X) o))
    (ha : ∀ ov iv new, augStore i ov iv new = (do holding [new, ov, iv] (setItem ov iv new); release [new, ov, iv] []; pure .next) := by intros; rfl) : DS X E (.AugAssign (.Subscript ob i tpos) op e pos) (dAugS o fo fi fe) :=
  (ps_augS ho hi ow_get he hp ow_setIx ha).imp fun D σ H ⟨as, δ, S, sr, er, w⟩ =>
  ⟨as, δ, S, sr, er, (w.bind er).mono fun _ _ _ _ _ _ _ _ _ ⟨as1, S1, d1, _, x1, s1, r1, w1⟩ => ⟨as1, δ, S1, s1, er.mono x1.w, (w1.bind (er.mono x1.w)).mono fun _ _ _ _ _ _ _ _ _ ⟨as2, S2, d2, _, x2, s2, r2, w2⟩ => by
    have er2 := (er.mono x1.w).mono x2.w
    split at w2
    · rename_i k
      split at w2
      · rename_i x ex
        simp only [Option.bind_eq_some_iff] at ex
        obtain ⟨ps, ep, ea⟩ := ex
        refine ⟨as2, S2, d1, _, ps, _, x, s2, r1.mono x2.w, r2, ep, rfl, ea, fun v rv => ?_⟩
        refine ⟨as2, δ, S2, s2, er2, (w2.bind er2).mono fun _ _ _ _ _ _ _ _ _ ⟨as3, S3, d3, _, x3, s3, r3, w3⟩ => ?_⟩
        refine ⟨as3, S3, .p x, d3, s3, rv.mono x3.w, r3, ?_⟩
        refine WR.wo (E := E σ) ((w3.bind (er2.mono x3.w)).mono fun _ _ _ _ _ _ _ _ _ ⟨as4, S4, d4, _, x4, s4, r4, w4⟩ => ?_)
        split at w4
        · rename_i S' eq
          exact ⟨as4, S4, d1, _, d4, s4, ((r1.mono x2.w).mono x3.w).mono x4.w, (r2.mono x3.w).mono x4.w, r4, S', eq, fun as' H' x s => w4 as' H' σ x s (((er2.mono x3.w).mono x4.w).mono x.w)⟩
        · exact w4.elim
      · exact w2.elim
    · exact w2.elim⟩⟩
end
end
end DL
namespace DL
noncomputable section
open PySem PySem.Spec PyProof.Rows L2

/-! ### for -/
open Classical in
noncomputable def forGo (ck : AH → Prop) (q : Pat) (fb : Sig → AH → Out) : List DV → Sig → AH → Out
  | [], δ, S => if ck S then .nx δ S else .bad
  | x :: xs, δ, S => if ck S then match q.set x δ with
    | none => .bad
    | some δ1 => match fb δ1 S with
      | .nx δ2 S2 => forGo ck q fb xs δ2 S2
      | .ct δ2 S2 => forGo ck q fb xs δ2 S2
      | .bk δ2 S2 => .nx δ2 S2
      | o => o
    else .bad
noncomputable def dFor (fi : Sig → AH → Res Its') (q : Pat) (fb : Sig → AH → Out) : Sig → AH → Out := fun δ S => (fi δ S).out δ fun x S1 => forGo x.2 q fb x.1 δ S1
section
variable {X : Cx} {E : L2.St → XK} {tg iter : Expr} {body : List Stmt} {pos : Pos} {fi : Sig → AH → Res Its'} {q : Pat} {fb : Sig → AH → Out}
theorem ds_for (g : Gd X E) (hi : DI X E tg iter fi) (hg : DG X tg q) (hb : DSs X E body fb) (hs : ∀ x, foldedSetIterable iter X.env x = pure x := by intro _; rfl) : DS X E (.For tg iter body [] pos) (dFor fi q fb) :=
  (ps_for g.po g.calm hi hg hb hs).imp fun D σ H ⟨as, δ, S, sr, er, w⟩ =>
  ⟨as, δ, S, sr, er, (w.bind er).mono fun _ _ _ H1 J _ _ _ _ ⟨as1, S1, x, _, e1, s1, y1, w1⟩ => by
    obtain ⟨xs, ck⟩ := x
    dsimp only at y1 w1
    refine ⟨fun i m σ H => m = xs.length - i ∧ i ≤ xs.length ∧ ∃ as' δ' S', Ext as1 H1 as' H ∧ SR (wd X) as' H S' ∧ ER (wd X) as' H σ δ' ∧ WS (wd X) E D as' H (forGo ck q fb (xs.drop i) δ' S'), ⟨xs.length, rfl, Nat.zero_le _, as1, δ, S1, Ext.refl _ _, s1, er.mono e1.w, w1⟩, ?_⟩
    rintro i m σ H ⟨rfl, hi, as2, δ2, S2, e2, s2, er2, w2⟩
    by_cases hlt : i < xs.length
    · have hx : xs[i]? = some xs[i] := List.getElem?_eq_getElem hlt
      have hd : xs.drop i = xs[i] :: xs.drop (i + 1) := List.drop_eq_getElem_cons hlt
      rw [hd] at w2
      unfold forGo at w2
      have hck : ck S2 := by
        refine Classical.byContradiction fun n => ?_
        rw [if_neg n] at w2
        exact w2
      rw [if_pos hck] at w2
      refine .inr ⟨y1.go _ _ _ e2.w s2 hck i hlt, fun σ H => i + 1 ≤ xs.length ∧ ∃ as' δ' S', Ext as1 H1 as' H ∧ SR (wd X) as' H S' ∧ ER (wd X) as' H σ δ' ∧ WS (wd X) E D as' H (forGo ck q fb (xs.drop (i + 1)) δ' S'), fun σ' H' n => ⟨xs.length - (i + 1), by omega, rfl, n.1, n.2⟩, fun v H' yv => ?_⟩
      obtain ⟨e3, s3, r3⟩ := y1.yld _ _ _ e2.w s2 hck i _ v H' hx yv
      cases eq : q.set xs[i] δ2 with
      | none => rw [eq] at w2; exact w2.elim
      | some δ3 =>
        rw [eq] at w2
        dsimp only at w2
        refine tPat_ok (M := wd X) q (er2.mono e3.w) r3 eq fun σ3 er3 _ => ⟨as2, δ3, S2, s3, er3, ?_⟩
        cases eb : fb δ3 S2 with
        | nx δ4 S4 =>
          rw [eb] at w2
          exact fun as' H' σ' x s r => ⟨hlt, as', δ4, S4, (e2.trans e3).trans x, s, r, WS.later (e3.trans x) w2⟩
        | ct δ4 S4 =>
          rw [eb] at w2
          exact fun as' H' σ' x s r => ⟨hlt, as', δ4, S4, (e2.trans e3).trans x, s, r, WS.later (e3.trans x) w2⟩
        | bk δ4 S4 =>
          rw [eb] at w2
          exact fun as' H' σ' x s r => w2 as' H' σ' (e3.trans x) s r
        | rt d S4 =>
          rw [eb] at w2
          exact fun as' H' v x s r => w2 as' H' v (e3.trans x) s r
        | rtT d S4 =>
          rw [eb] at w2
          exact fun as' H' v x s r => w2 as' H' v (e3.trans x) s r
        | exc c p δ4 S4 =>
          rw [eb] at w2
          exact fun as' H' σ' cls dd x s r => w2 as' H' σ' cls dd (e3.trans x) s r
        | bad => rw [eb] at w2; exact w2.elim
    · have hi' : i = xs.length := by omega
      subst hi'
      rw [List.drop_length] at w2
      unfold forGo at w2
      have hck : ck S2 := by
        refine Classical.byContradiction fun n => ?_
        rw [if_neg n] at w2
        exact w2
      rw [if_pos hck] at w2
      exact .inl ⟨y1.stop _ _ _ e2.w s2 hck, w2.here s2 er2⟩⟩
end

/-! ### while -/
def whN (fc : Sig → AH → Res Bool) (fb : Sig → AH → Out) : Nat → Sig → AH → Out
  | 0, _, _ => .bad
  | n + 1, δ, S => (fc δ S).out δ fun b S1 => if b = true then match fb δ S1 with
      | .nx δ2 S2 => whN fc fb n δ2 S2
      | .ct δ2 S2 => whN fc fb n δ2 S2
      | .bk δ2 S2 => .nx δ2 S2
      | o => o
    else .nx δ S1
theorem whN_up {fc : Sig → AH → Res Bool} {fb : Sig → AH → Out} : ∀ (n : Nat) (δ : Sig) (S : AH), whN fc fb n δ S ≠ .bad → whN fc fb (n + 1) δ S = whN fc fb n δ S
  | 0, δ, S, h => absurd rfl h
  | n + 1, δ, S, h => by
    unfold whN at h ⊢
    cases e : fc δ S with
    | bad => rw [e] at h; exact absurd rfl h
    | exc c p S1 => rfl
    | ok b S1 =>
      rw [e] at h
      simp only [out_ok] at h ⊢
      cases b with
      | false => rfl
      | true =>
        simp only [if_true] at h ⊢
        cases e2 : fb δ S1 with
        | nx δ2 S2 => rw [e2] at h; exact whN_up n δ2 S2 h
        | ct δ2 S2 => rw [e2] at h; exact whN_up n δ2 S2 h
        | bk δ2 S2 => rfl
        | rt d S2 => rfl
        | rtT d S2 => rfl
        | exc c p δ2 S2 => rfl
        | bad => rfl
theorem whN_le {fc : Sig → AH → Res Bool} {fb : Sig → AH → Out} {δ : Sig} {S : AH} {n : Nat} (h : whN fc fb n δ S ≠ .bad) : ∀ m, n ≤ m → whN fc fb m δ S = whN fc fb n δ S := by
  intro m hm
  induction m with
  | zero => have : n = 0 := by omega
            subst this; rfl
  | succ m ih =>
    by_cases e : n ≤ m
    · have q := ih e
      rw [whN_up m δ S (by rw [q]; exact h), q]
    · have : n = m + 1 := by omega
      rw [this]
open Classical in
noncomputable def dWhile (fc : Sig → AH → Res Bool) (fb : Sig → AH → Out) : Sig → AH → Out := fun δ S => if h : ∃ n, whN fc fb n δ S ≠ .bad then whN fc fb (choose h) δ S else .bad
theorem dWhile_at {fc : Sig → AH → Res Bool} {fb : Sig → AH → Out} {δ : Sig} {S : AH} {n : Nat} (h : whN fc fb n δ S ≠ .bad) : dWhile fc fb δ S = whN fc fb n δ S := by
  have hx : ∃ n, whN fc fb n δ S ≠ .bad := ⟨n, h⟩
  unfold dWhile
  rw [dif_pos hx]
  have hc := Classical.choose_spec hx
  by_cases e : n ≤ Classical.choose hx
  · exact whN_le h _ e
  · exact (whN_le hc _ (by omega)).symm
theorem dWhile_bad {fc : Sig → AH → Res Bool} {fb : Sig → AH → Out} {δ : Sig} {S : AH} (h : ∀ n, whN fc fb n δ S = .bad) : dWhile fc fb δ S = .bad := by
  unfold dWhile
  rw [dif_neg fun ⟨n, q⟩ => q (h n)]
/-- one turn -/
theorem dWhile_eq (fc : Sig → AH → Res Bool) (fb : Sig → AH → Out) (δ : Sig) (S : AH) : dWhile fc fb δ S = (fc δ S).out δ fun b S1 => if b = true then match fb δ S1 with
      | .nx δ2 S2 => dWhile fc fb δ2 S2
      | .ct δ2 S2 => dWhile fc fb δ2 S2
      | .bk δ2 S2 => .nx δ2 S2
      | o => o
    else .nx δ S1 := by
  have step : ∀ n, whN fc fb (n + 1) δ S = (fc δ S).out δ fun b S1 => if b = true then match fb δ S1 with
      | .nx δ2 S2 => whN fc fb n δ2 S2
      | .ct δ2 S2 => whN fc fb n δ2 S2
      | .bk δ2 S2 => .nx δ2 S2
      | o => o
    else .nx δ S1 := fun n => rfl
  have deep : ∀ (δ2 : Sig) (S2 : AH), (∀ n, whN fc fb (n + 1) δ S = whN fc fb n δ2 S2) → dWhile fc fb δ S = dWhile fc fb δ2 S2 := by
    intro δ2 S2 h
    by_cases hx : ∃ n, whN fc fb n δ2 S2 ≠ .bad
    · obtain ⟨n, hn⟩ := hx
      rw [dWhile_at hn, dWhile_at (n := n + 1) (by rw [h]; exact hn), h]
    · have h2 : ∀ n, whN fc fb n δ2 S2 = .bad := fun n => Classical.byContradiction fun q => hx ⟨n, q⟩
      rw [dWhile_bad h2]
      refine dWhile_bad fun n => ?_
      cases n with
      | zero => rfl
      | succ n => rw [h, h2]
  have flat : ∀ o : Out, (∀ n, whN fc fb (n + 1) δ S = o) → dWhile fc fb δ S = o := by
    intro o h
    by_cases e : o = .bad
    · subst e
      refine dWhile_bad fun n => ?_
      cases n with
      | zero => rfl
      | succ n => exact h n
    · rw [dWhile_at (n := 1) (by rw [h 0]; exact e), h 0]
  cases e : fc δ S with
  | bad => exact flat _ fun n => by rw [step, e]; rfl
  | exc c p S1 => exact flat _ fun n => by rw [step, e]; rfl
  | ok b S1 =>
    cases b with
    | false => exact flat _ fun n => by rw [step, e]; rfl
    | true =>
      cases e2 : fb δ S1 with
      | nx δ2 S2 =>
        simp only [out_ok, if_true, e2]
        exact deep _ _ fun n => by rw [step, e]; simp only [out_ok, if_true, e2]
      | ct δ2 S2 =>
        simp only [out_ok, if_true, e2]
        exact deep _ _ fun n => by rw [step, e]; simp only [out_ok, if_true, e2]
      | bk δ2 S2 => exact flat _ fun n => by rw [step, e]; simp only [out_ok, if_true, e2]
      | rt d S2 => exact flat _ fun n => by rw [step, e]; simp only [out_ok, if_true, e2]
      | rtT d S2 => exact flat _ fun n => by rw [step, e]; simp only [out_ok, if_true, e2]
      | exc c p δ2 S2 => exact flat _ fun n => by rw [step, e]; simp only [out_ok, if_true, e2]
      | bad => exact flat _ fun n => by rw [step, e]; simp only [out_ok, if_true, e2]
section
variable {X : Cx} {E : L2.St → XK} {c : Expr} {body : List Stmt} {pos : Pos} {fc : Sig → AH → Res Bool} {fb : Sig → AH → Out}
theorem ds_while (g : Gd X E) (hc : DT X E c fc) (hb : DSs X E body fb) : DS X E (.While c body [] pos) (dWhile fc fb) :=
  (ps_while g.po hc hb).imp fun D σ H ⟨as, δ, S, sr, er, w⟩ => by
  have hb : ∃ n, whN fc fb n δ S ≠ .bad := by
    refine Classical.byContradiction fun q => ?_
    rw [dWhile_bad fun n => Classical.byContradiction fun z => q ⟨n, z⟩] at w
    exact w
  obtain ⟨n, hn⟩ := hb
  rw [dWhile_at hn] at w
  refine ⟨fun m σ H => ∃ as δ S, SR (wd X) as H S ∧ ER (wd X) as H σ δ ∧ WS (wd X) E D as H (whN fc fb m δ S), ⟨n, as, δ, S, sr, er, w⟩, ?_⟩
  rintro m σ H ⟨as, δ, S, sr, er, w⟩
  cases m with
  | zero => exact w.elim
  | succ m =>
    unfold whN at w
    refine ⟨as, δ, S, sr, er, (w.bind er).mono fun _ _ _ H1 k _ _ _ _ ⟨as1, S1, d1, _, x1, s1, r1, w1⟩ => ?_⟩
    cases r1
    cases k with
    | false => exact w1.here s1 (er.mono x1.w)
    | true =>
      rw [if_pos rfl] at w1 ⊢
      refine ⟨fun σ H => ∃ as δ S, SR (wd X) as H S ∧ ER (wd X) as H σ δ ∧ WS (wd X) E D as H (whN fc fb m δ S), fun σ' H' h => ⟨m, Nat.lt_succ_self m, h⟩, as1, δ, S1, s1, er.mono x1.w, ?_⟩
      cases eb : fb δ S1 with
      | nx δ4 S4 =>
        rw [eb] at w1
        exact fun as' H' σ' x s r => ⟨as', δ4, S4, s, r, WS.later x w1⟩
      | ct δ4 S4 =>
        rw [eb] at w1
        exact fun as' H' σ' x s r => ⟨as', δ4, S4, s, r, WS.later x w1⟩
      | bk δ4 S4 =>
        rw [eb] at w1
        exact fun as' H' σ' x s r => w1 as' H' σ' x s r
      | rt d S4 =>
        rw [eb] at w1
        exact fun as' H' v x s r => w1 as' H' v x s r
      | rtT d S4 =>
        rw [eb] at w1
        exact fun as' H' v x s r => w1 as' H' v x s r
      | exc c p δ4 S4 =>
        rw [eb] at w1
        exact fun as' H' σ' cls dd x s r => w1 as' H' σ' cls dd x s r
      | bad => rw [eb] at w1; exact w1.elim
end

/-! ### raise, try -/
def dRaise (c : Str) : Sig → AH → Out := fun δ S => .exc c [] δ S
section
variable {X : Cx} {E : L2.St → XK} {e : Expr} {pos : Pos} {c : Str} {C : Addr}
theorem ds_raise (g : Gd X E) (he : PMk X e (fun _ H Q => Q (.ref C) none H)) (hm : X.mg c = some (.ref C)) : DS X E (.Raise (some e) none pos) (dRaise c) := (ps_raise g.calm g.tk he).imp fun D σ H ⟨as, δ, S, sr, er, w⟩ =>
  w as H σ (.ref C) none (Ext.refl _ _) sr er ⟨hm, fun _ => rfl, fun h => absurd rfl h⟩
end
def _root_.DL.Out.nox : Out → Out
  | .exc _ _ _ _ => .bad
  | o => o
/-- which classes a clause catches -/
def dTry (sub : Str → Option Bool) (fb fs : Sig → AH → Out) : Sig → AH → Out := fun δ S => match fb δ S with
  | .exc c p δ' S' => match sub c with
    | some true => (fs δ' S').nox
    | some false => .exc c p δ' S'
    | none => .bad
  | o => o
section
variable {X : Cx} {E : L2.St → XK} {x : Str} {c : Value} {body suite : List Stmt} {b₀ : Stmt} {np pos pos' : Pos} {fb fs : Sig → AH → Out} {sub : Str → Option Bool}
theorem ds_try (g : Gd X E) (hs : X.stack = X.env :: X.outer) (hf : X.env.frame = some X.env.locals) (hc : Names X x c) (hsub : ∀ n b cls, sub n = some b → X.mg n = some cls → PySem.W.exmOne X.K cls c = some b)
    (hb : ∀ (W : WX) (pn : List (Addr × Obj)) (xe : Value → Shared → Prop), Gd (X.tr pn xe) (WE W) → DSs (X.tr pn xe) (WE W) body fb)
    (hsu : ∀ (a : Addr) (pn : List (Addr × Obj)), DSs (X.suite a pn) EN (b₀ :: suite) fs) : DS X E (.Try body [.ExceptHandler (some (.Name x np)) none (b₀ :: suite) pos'] [] [] pos) (dTry sub fb fs) :=
  (ps_try_only (tb := fun W => tS (wd X) (WE W) fb) (ts := fun _ _ _ => tS (wd X) EN fs) (Wout := fun cls d σ H => E σ cls d H) hs hf hc g.tk (fun W pn xe tk po => hb W pn xe ⟨g.calm, tk, po⟩) (fun a oe cls d pn _ _ => hsu a _)).imp fun D σ H ⟨as, δ, S, sr, er, w⟩ => by
  refine ⟨as, δ, S, sr, er, ?_⟩
  unfold dTry at w
  split at w
  · rename_i n p δ' S' eq
    rw [eq]
    intro as' H' σ' cls dd x' s' r' ex
    split at w
    · rename_i e1
      refine ⟨true, hsub n true cls e1 ex.1, fun _ a na => ⟨as', δ', S', s', r', ?_⟩, fun z => Bool.noConfusion z⟩
      have w' := WS.later x' w
      cases ef : fs δ' S' with
      | nx δ4 S4 => rw [ef] at w'; exact w'
      | ct δ4 S4 => rw [ef] at w'; exact w'
      | bk δ4 S4 => rw [ef] at w'; exact w'
      | rt d S4 => rw [ef] at w'; exact w'
      | rtT d S4 => rw [ef] at w'; exact w'
      | exc c p δ4 S4 => rw [ef] at w'; exact w'.elim
      | bad => rw [ef] at w'; exact w'
    · rename_i e1
      exact ⟨false, hsub n false cls e1 ex.1, fun z => Bool.noConfusion z, fun _ => w as' H' σ' cls dd x' s' r' ex⟩
    · exact w.elim
  · rename_i n
    cases eq : fb δ S with
    | nx δ1 S1 => rw [eq] at w; exact w
    | rt d S1 => rw [eq] at w; exact w
    | rtT d S1 => rw [eq] at w; exact w
    | bk δ1 S1 => rw [eq] at w; exact w
    | ct δ1 S1 => rw [eq] at w; exact w
    | exc c p δ1 S1 => exact absurd eq (n _ _ _ _)
    | bad => rw [eq] at w; exact w
end

/-! ### defs -/
/-- a nest below may not name what is dropped, or it is as it was -/
def okc (n : Nat) (a b : Cell) : Prop := match b with
  | .lst _ => True
  | .nst ks => a = .nst ks ∨ ∀ k ∈ ks, k < n
  | .dct _ => True
  | .fn => True
  | .tab _ => True
def okC (n : Nat) : AH → AH → Prop
  | [], _ => True
  | _ :: _, [] => True
  | a :: S, b :: S' => okc n a b ∧ okC n S S'
theorem okC_get {n : Nat} : ∀ {S S' : AH} {i : Nat} {a : Cell} {ks : List Nat}, okC n S S' → S[i]? = some a → S'[i]? = some (.nst ks) → a = .nst ks ∨ ∀ k ∈ ks, k < n
  | [], _, i, a, ks, _, e, _ => by simp at e
  | _ :: _, [], i, a, ks, _, _, e => by simp at e
  | c :: S, d :: S', 0, a, ks, h, e, e' => by
    simp at e e'
    subst e e'
    exact h.1
  | c :: S, d :: S', i + 1, a, ks, h, e, e' => okC_get (i := i) h.2 (by simpa using e) (by simpa using e')
theorem okc_self (n : Nat) (a : Cell) : okc n a a := by
  cases a with
  | lst _ => trivial
  | nst ks => exact .inl rfl
  | dct _ => trivial
  | fn => trivial
  | tab _ => trivial
theorem okC_app (n : Nat) : ∀ (S J : AH), okC n S (S ++ J)
  | [], _ => trivial
  | a :: S, J => ⟨okc_self n a, okC_app n S J⟩
theorem okC_self (n : Nat) (S : AH) : okC n S S := by
  have := okC_app n S []
  rwa [List.append_nil] at this
def _root_.DL.Out.heap : Out → AH
  | .nx _ S => S
  | .rt _ S => S
  | .rtT _ S => S
  | .bk _ S => S
  | .ct _ S => S
  | .exc _ _ _ S => S
  | .bad => []
/-- a flat cell above n, frozen -/
def frzC (n : Nat) (S : AH) (k : Nat) : Option PV := if n ≤ k then match S[k]? with
    | some (.lst xs) => some (.lst xs)
    | _ => none
  else none
def frzCs (n : Nat) (S : AH) : List Nat → Option (List PV)
  | [] => some []
  | k :: ks => (frzC n S k).bind fun x => (frzCs n S ks).map fun r => x :: r
def frzD (n : Nat) (S : AH) : DV → Option PV
  | .p x => some x
  | .c k => if n ≤ k then match S[k]? with
      | some (.lst xs) => some (.lst xs)
      | some (.nst ks) => (frzCs n S ks).map .lst
      | _ => none
    else none
def frzDs (n : Nat) (S : AH) : List DV → Option (List PV)
  | [] => some []
  | d :: ds => (frzD n S d).bind fun x => (frzDs n S ds).map fun r => x :: r
/-- what a body gives: cells that nobody needs any more are dropped -/
def gcR (n : Nat) (keep : Bool) (o : Out) : Res DV := match o with
  | .nx _ S' => .ok (.p .non) (S'.take n)
  | .rt (.p v) S' => .ok (.p v) (S'.take n)
  | .rt (.c i) S' => if i < n then .ok (.c i) (S'.take n) else match S'[i]? with
    | some (.lst xs) => if keep = true then .ok (.c n) (S'.take n ++ [.lst xs]) else .ok (.p (.lst xs)) (S'.take n)
    | some (.nst ks) => match frzCs n S' ks with
      | some ps => .ok (.p (.lst ps)) (S'.take n)
      | _ => .bad
    | _ => .bad
  | .rtT ds S' => match frzDs n S' ds with
    | some ps => .ok (.p (.tup ps)) (S'.take n)
    | _ => .bad
  | .exc c p _ S' => .exc c p (S'.take n)
  | _ => .bad
open Classical in
def gcK (S : AH) (keep : Bool) (o : Out) : Res DV := if okC S.length S o.heap then gcR S.length keep o else .bad
def dDef (N n : Nat) (keep : Bool) (body : Sig → AH → Out) : List DV → AH → Res DV := fun ds S => if ds.length = n then gcK S keep (body (ds.map some ++ List.replicate (N - n) none) S) else .bad
section
variable {M : Wd} {as as' : As} {H H' : Hp} {S S' : AH}
theorem As.off_less {as as' : As} (hc : ∃ m, as'.cells = as.cells ++ m) (hh : as'.hid = as.hid) {a : Addr} (h : as'.off a) : as.off a := by
  obtain ⟨m, e⟩ := hc
  exact ⟨fun z => h.1 (by rw [e]; exact List.mem_append_left _ z), by rw [← hh]; exact h.2⟩
mutual
theorem PR.fewer (f : ∀ a, as'.off a → as.off a) : ∀ {v : V} {x : PV}, PR M as' H v x → PR M as H v x
  | _, _, .non => .non
  | _, _, .bl b => .bl b
  | _, _, .int i => .int i
  | _, _, .str y => .str y
  | _, _, .tup h t => .tup ⟨h.1, h.2.imp (fun ⟨e, q⟩ => ⟨e, f _ q⟩) id⟩ (PRs.fewer f t)
  | _, _, .lst ⟨z, e, q⟩ t => .lst ⟨z, e, f _ q⟩ (PRs.fewer f t)
  | _, _, .fro h t => .fro ⟨h.1, h.2.imp (fun ⟨e, q⟩ => ⟨e, f _ q⟩) id⟩ (PRs.fewer f t)
  | _, _, .glob h r => .glob h r
theorem PRs.fewer (f : ∀ a, as'.off a → as.off a) : ∀ {vs : List V} {ps : List PV}, PRs M as' H vs ps → PRs M as H vs ps
  | _, _, .nil => .nil
  | _, _, .cons h t => .cons (PR.fewer f h) (PRs.fewer f t)
end
theorem Ext.back (x : Ext as H as' H') : Ext as H as H' := ⟨⟨[], by simp⟩, rfl, fun a o e q => ⟨(x.keep a o e q).1, q⟩, x.hkeep, x.exts⟩
theorem cell_back (x : Ext as H as' H') (f : ∀ a, as'.off a → as.off a) (sr : SR M as H S) (s : SR M as' H' S') (ok : okC S.length S S') {i : Nat} {a : Addr} {c : Cell} (e1 : as.cells[i]? = some a) (e2 : S'[i]? = some c) : CR M as H' a c := by
  have q := s.cell i a c (x.get e1) e2
  cases c with
  | lst ps =>
    obtain ⟨vs, z, e, t⟩ := q
    exact ⟨vs, z, e, t.fewer f⟩
  | dct kvs =>
    obtain ⟨vs, z, e, t⟩ := q
    exact ⟨vs, z, e, t.fewer f⟩
  | fn => exact q
  | tab x => exact q
  | nst ks =>
    obtain ⟨vs, z, e, t⟩ := q
    refine ⟨vs, z, e, ?_⟩
    have hi : i < S.length := by rw [← sr.len]; exact (List.getElem?_eq_some_iff.mp e1).1
    have lt : ∀ k ∈ ks, k < as.cells.length := by
      rcases okC_get ok (List.getElem?_eq_getElem hi) e2 with h | h
      · obtain ⟨vs0, _, _, t0⟩ := sr.cell i a (.nst ks) e1 (by rw [List.getElem?_eq_getElem hi, h])
        have go : ∀ {vs : List V} {ks : List Nat}, KRs as vs ks → ∀ k ∈ ks, k < as.cells.length := by
          intro vs ks r
          induction r with
          | nil => intro k hk; cases hk
          | cons h t ih =>
            intro k hk
            rcases List.mem_cons.mp hk with rfl | hk
            · obtain ⟨b, e, _⟩ := h
              exact (List.getElem?_eq_some_iff.mp e).1
            · exact ih k hk
        exact go t0
      · rw [sr.len]; exact h
    obtain ⟨m, em⟩ := x.more
    have go : ∀ {vs : List V} {ks : List Nat}, KRs as' vs ks → (∀ k ∈ ks, k < as.cells.length) → KRs as vs ks := by
      intro vs ks r
      induction r with
      | nil => intro _; exact .nil
      | cons h t ih =>
        intro hk
        obtain ⟨b, e, r⟩ := h
        refine .cons ⟨b, ?_, r⟩ (ih fun k hk' => hk k (List.mem_cons_of_mem _ hk'))
        rw [em, List.getElem?_append_left (hk _ List.mem_cons_self)] at e
        exact e
    exact go t lt
theorem SR.back (x : Ext as H as' H') (sr : SR M as H S) (s : SR M as' H' S') (ok : okC S.length S S') : SR M as H' (S'.take S.length) := by
  obtain ⟨m, em⟩ := x.more
  have f : ∀ a, as'.off a → as.off a := fun a => As.off_less x.more x.hids
  have hlen : as.cells.length ≤ S'.length := by rw [← s.len, em, List.length_append]; omega
  refine ⟨by rw [List.length_take, ← sr.len]; omega, sr.nd, sr.apart, fun a ha => ?_, fun i a c e1 e2 => ?_⟩
  · obtain ⟨o, e⟩ := sr.hidd a ha
    exact ⟨o, x.hkeep a o ha e⟩
  · have hi : i < as.cells.length := (List.getElem?_eq_some_iff.mp e1).1
    rw [List.getElem?_take_of_lt (by rw [← sr.len]; exact hi)] at e2
    exact cell_back x f sr s ok e1 e2
theorem Ext.back1 (x : Ext as H as' H') {i : Nat} {a : Addr} (e : as'.cells[i]? = some a) : Ext as H (as.add a) H' := by
  refine ⟨⟨[a], rfl⟩, rfl, fun b o e1 q => ?_, x.hkeep, x.exts⟩
  obtain ⟨h1, h2⟩ := x.keep b o e1 q
  refine ⟨h1, fun z => ?_, q.2⟩
  rcases List.mem_append.mp z with z | z
  · exact q.1 z
  · have : b = a := by simpa using z
    subst this
    exact h2.1 (List.mem_of_getElem? e)
theorem SR.back1 (x : Ext as H as' H') (sr : SR M as H S) (s : SR M as' H' S') {i : Nat} {a : Addr} {xs : List PV} (ok : okC S.length S S') (hi : S.length ≤ i) (e : as'.cells[i]? = some a) (eS : S'[i]? = some (.lst xs)) : SR M (as.add a) H' (S'.take S.length ++ [.lst xs]) := by
  have b := SR.back x sr s ok
  obtain ⟨m, em⟩ := x.more
  have na : a ∉ as.cells := fun z => by
    obtain ⟨j, hj⟩ := List.mem_iff_getElem?.mp z
    have h1 : j < as.cells.length := (List.getElem?_eq_some_iff.mp hj).1
    have h2 := x.get hj
    have h3 : j < as'.cells.length := (List.getElem?_eq_some_iff.mp h2).1
    have h4 : i < as'.cells.length := (List.getElem?_eq_some_iff.mp e).1
    rw [List.getElem?_eq_getElem h3] at h2
    rw [List.getElem?_eq_getElem h4] at e
    have h5 := (List.getElem_inj s.nd).mp (show as'.cells[j] = as'.cells[i] by rw [Option.some.inj h2, Option.some.inj e])
    rw [sr.len] at h1
    omega
  have f : ∀ b, as'.off b → (as.add a).off b := fun b q => by
    refine ⟨fun z => ?_, fun z => q.2 (by rw [x.hids]; exact z)⟩
    rcases List.mem_append.mp z with z | z
    · exact q.1 (by rw [em]; exact List.mem_append_left _ z)
    · have : b = a := by simpa using z
      subst this
      exact q.1 (List.mem_of_getElem? e)
  have hl : (S'.take S.length).length = as.cells.length := b.len.symm
  refine ⟨by unfold As.add; rw [List.length_append, List.length_append, hl]; rfl, List.nodup_append.mpr ⟨sr.nd, by simp, fun c hc d hd z => ?_⟩, fun c hc => ?_, b.hidd, fun j c cl e1 e2 => ?_⟩
  · have : d = a := by simpa using hd
    subst this
    subst z
    exact na hc
  · rcases List.mem_append.mp hc with z | z
    · exact sr.apart c z
    · have : c = a := by simpa using z
      subst this
      exact fun q => s.apart c (List.mem_of_getElem? e) (by rw [x.hids]; exact q)
  · have e1 : (as.cells ++ [a])[j]? = some c := e1
    by_cases hj : j < as.cells.length
    · rw [List.getElem?_append_left hj] at e1
      rw [List.getElem?_append_left (by rw [hl]; exact hj)] at e2
      rw [List.getElem?_take_of_lt (by rw [← sr.len]; exact hj)] at e2
      have q := cell_back x (fun a => As.off_less x.more x.hids) sr s ok e1 e2
      cases cl with
      | lst ps =>
        obtain ⟨vs, z, e, t⟩ := q
        obtain ⟨vs', z', e', t'⟩ := s.cell j c (.lst ps) (x.get e1) e2
        exact ⟨vs', z', e', t'.fewer f⟩
      | dct kvs =>
        obtain ⟨vs', z', e', t'⟩ := s.cell j c (.dct kvs) (x.get e1) e2
        exact ⟨vs', z', e', t'.fewer f⟩
      | fn => exact q
      | tab x => exact q
      | nst ks =>
        obtain ⟨vs, z, e, t⟩ := q
        exact ⟨vs, z, e, Paired.mapP t fun _ _ ⟨b, e, r⟩ => ⟨b, by unfold As.add; rw [List.getElem?_append_left (List.getElem?_eq_some_iff.mp e).1]; exact e, r⟩⟩
    · have hl2 : j < (as.cells ++ [a]).length := (List.getElem?_eq_some_iff.mp e1).1
      rw [List.length_append, List.length_singleton] at hl2
      have hj' : j = as.cells.length := by omega
      subst hj'
      rw [List.getElem?_append_right (Nat.le_refl _), Nat.sub_self] at e1
      rw [← hl, List.getElem?_append_right (Nat.le_refl _), Nat.sub_self] at e2
      have e1' : a = c := by simpa using e1
      have e2' : Cell.lst xs = cl := by simpa using e2
      subst e1'
      subst e2'
      obtain ⟨b2, vs, eb, z, hb, t⟩ := s.at eS
      rw [e] at eb; cases eb
      exact ⟨vs, z, hb, t.fewer f⟩
end
/-- a cell above is off behind -/
theorem off_back {M : Wd} {as as' : As} {H H' : Hp} {S S' : AH} (x : Ext as H as' H') (sr : SR M as H S) (s : SR M as' H' S') {i : Nat} {a : Addr} (hi : S.length ≤ i) (ea : as'.cells[i]? = some a) : as.off a := by
  refine ⟨fun q => ?_, fun q => s.apart a (List.mem_of_getElem? ea) (by rw [x.hids]; exact q)⟩
  obtain ⟨j, hj⟩ := List.mem_iff_getElem?.mp q
  have h1 : j < as.cells.length := (List.getElem?_eq_some_iff.mp hj).1
  have h2 := x.get hj
  have h3 : j < as'.cells.length := (List.getElem?_eq_some_iff.mp h2).1
  have h4 : i < as'.cells.length := (List.getElem?_eq_some_iff.mp ea).1
  rw [List.getElem?_eq_getElem h3] at h2
  rw [List.getElem?_eq_getElem h4] at ea
  have h5 := (List.getElem_inj s.nd).mp (show as'.cells[j] = as'.cells[i] by rw [Option.some.inj h2, Option.some.inj ea])
  rw [sr.len] at h1
  omega
section
variable {M : Wd} {as as' : As} {H H' : Hp} {S S' : AH}
theorem frzC_ok (x : Ext as H as' H') (sr : SR M as H S) (s : SR M as' H' S') {k : Nat} {a : Addr} {p : PV} (ea : as'.cells[k]? = some a) (e : frzC S.length S' k = some p) : PR M as H' (.ref a) p := by
  unfold frzC at e
  split at e
  · rename_i hk
    split at e
    · rename_i xs eS
      cases e
      obtain ⟨b2, vs, eb, z, hb, t⟩ := s.at eS
      rw [ea] at eb; cases eb
      exact .lst ⟨z, hb, off_back x sr s hk ea⟩ (t.fewer fun a => As.off_less x.more x.hids)
    · cases e
  · cases e
theorem frzCs_ok (x : Ext as H as' H') (sr : SR M as H S) (s : SR M as' H' S') : ∀ {ks : List Nat} {vs : List V} {ps : List PV}, KRs as' vs ks → frzCs S.length S' ks = some ps → PRs M as H' vs ps
  | [], _, _, .nil, e => by cases e; exact .nil
  | k :: ks, _, _, .cons h t, e => by
    simp only [frzCs, Option.bind_eq_some_iff, Option.map_eq_some_iff] at e
    obtain ⟨y, e1, r, e2, rfl⟩ := e
    obtain ⟨b, eb, rfl⟩ := h
    exact .cons (frzC_ok x sr s eb e1) (frzCs_ok x sr s t e2)
theorem frzD_ok (x : Ext as H as' H') (sr : SR M as H S) (s : SR M as' H' S') {d : DV} {v : V} {p : PV} (r : DVR M as' H' v d) (e : frzD S.length S' d = some p) : PR M as H' v p := by
  cases d with
  | p y => cases e; exact PR.fewer (fun a => As.off_less x.more x.hids) r
  | c k =>
    obtain ⟨a, ea, rfl⟩ := r
    simp only [frzD] at e
    split at e
    · rename_i hk
      split at e
      · rename_i xs eS
        cases e
        obtain ⟨b2, vs, eb, z, hb, t⟩ := s.at eS
        rw [ea] at eb; cases eb
        exact .lst ⟨z, hb, off_back x sr s hk ea⟩ (t.fewer fun a => As.off_less x.more x.hids)
      · rename_i ks eS
        simp only [Option.map_eq_some_iff] at e
        obtain ⟨ps, e1, rfl⟩ := e
        obtain ⟨b2, vs, eb, z, hb, t⟩ := s.atN eS
        rw [ea] at eb; cases eb
        exact .lst ⟨z, hb, off_back x sr s hk ea⟩ (frzCs_ok x sr s t e1)
      · cases e
    · cases e
theorem frzDs_ok (x : Ext as H as' H') (sr : SR M as H S) (s : SR M as' H' S') : ∀ {ds : List DV} {vs : List V} {ps : List PV}, DVRs M as' H' vs ds → frzDs S.length S' ds = some ps → PRs M as H' vs ps
  | [], _, _, .nil, e => by cases e; exact .nil
  | d :: ds, _, _, .cons h t, e => by
    simp only [frzDs, Option.bind_eq_some_iff, Option.map_eq_some_iff] at e
    obtain ⟨y, e1, r, e2, rfl⟩ := e
    exact .cons (frzD_ok x sr s h e1) (frzDs_ok x sr s t e2)
end
theorem gc_ok {M : Wd} {E : XK} {as : As} {H : Hp} {S : AH} {Q : VK} {keep : Bool} {o : Out} (sr : SR M as H S) (w : WR M E (DVR M) as H (gcK S keep o) Q) : WS M (fun _ => E) { nx := fun _ H' => Q .non H', rt := Q } as H o := by
  have f : ∀ {as' : As} {H' : Hp}, Ext as H as' H' → ∀ a, as'.off a → as.off a := fun x a => As.off_less x.more x.hids
  have ok : okC S.length S o.heap := by
    refine Classical.byContradiction fun n => ?_
    unfold gcK at w
    rw [if_neg n] at w
    exact w
  unfold gcK at w
  rw [if_pos ok] at w
  cases o with
  | nx δ' S' => exact fun as' H' σ' x s r => w as H' .non x.back (SR.back x sr s ok) .non
  | rt d S' =>
    intro as' H' v x s r
    cases d with
    | p v => exact w as H' _ x.back (SR.back x sr s ok) (PR.fewer (f x) r)
    | c i =>
      unfold gcR at w
      dsimp only at w
      obtain ⟨a, ea, rfl⟩ := r
      split at w
      · rename_i hi
        refine w as H' _ x.back (SR.back x sr s ok) ⟨a, ?_, rfl⟩
        obtain ⟨m, em⟩ := x.more
        rw [em, List.getElem?_append_left (by rw [sr.len]; exact hi)] at ea
        exact ea
      · rename_i hi
        split at w
        · rename_i xs eS
          split at w
          · exact w (as.add a) H' _ (x.back1 ea) (SR.back1 x sr s ok (by omega) ea eS) ⟨a, by unfold As.add; rw [← sr.len]; simp, rfl⟩
          · obtain ⟨b2, vs, eb, z, hb, t⟩ := s.at eS
            rw [ea] at eb; cases eb
            exact w as H' _ x.back (SR.back x sr s ok) (PR.lst ⟨z, hb, off_back x sr s (by omega) ea⟩ (t.fewer (f x)))
        · rename_i ks eS
          split at w
          · rename_i ps e1
            obtain ⟨b2, vs, eb, z, hb, t⟩ := s.atN eS
            rw [ea] at eb; cases eb
            exact w as H' _ x.back (SR.back x sr s ok) (PR.lst ⟨z, hb, off_back x sr s (by omega) ea⟩ (frzCs_ok x sr s t e1))
          · exact w.elim
        · exact w.elim
  | rtT ds S' =>
    intro as' H' v x s ⟨a, vs, e, hT, r⟩
    subst e
    unfold gcR at w
    dsimp only at w
    split at w
    · rename_i ps e1
      refine w as H' _ x.back (SR.back x sr s ok) (PR.tup ⟨hT.1, ?_⟩ (frzDs_ok x sr s r e1))
      rcases hT.2 with ⟨e2, q⟩ | h
      · exact .inl ⟨e2, f x a q⟩
      · exact .inr h
    · exact w.elim
  | bk δ' S' => exact w.elim
  | ct δ' S' => exact w.elim
  | exc c p δ' S' =>
    intro as' H' σ' cls dd x s r ex
    refine w as H' cls dd x.back (SR.back x sr s ok) ⟨ex.1, ex.2.1, fun h => ?_⟩
    obtain ⟨d, fs, e1, e2, e3, e4⟩ := ex.2.2 h
    exact ⟨d, fs, e1, f x d e2, e3, Paired.mapP e4 fun _ _ q => ⟨q.1, PR.fewer (f x) q.2⟩⟩
  | bad => exact w
theorem er_start {M : Wd} {as : As} {H : Hp} {N : List Str} {vs : List V} {ds : List DV} (r : DVRs M as H vs ds) {n : Nat} (hn : ds.length = n) : ER M as H (L2.start N vs) (ds.map some ++ List.replicate (N.length - n) none) := by
  have hl : vs.length = ds.length := Paired.length r
  unfold L2.start
  refine ⟨by simp [hl, hn], fun i d e => ?_⟩
  by_cases hi : i < ds.length
  · rw [List.getElem?_append_left (by simpa using hi), List.getElem?_map] at e
    have hi' : i < vs.length := by omega
    rw [List.getElem?_append_left (by simpa using hi'), List.getElem?_map]
    rw [List.getElem?_eq_getElem hi] at e
    rw [List.getElem?_eq_getElem hi']
    have go : ∀ {vs : List V} {ds : List DV}, DVRs M as H vs ds → ∀ (i : Nat) (h1 : i < vs.length) (h2 : i < ds.length), DVR M as H vs[i] ds[i] := by
      intro vs ds r
      induction r with
      | nil => intro i h1; exact absurd h1 (Nat.not_lt_zero _)
      | cons h t ih =>
        intro i h1 h2
        cases i with
        | zero => exact h
        | succ i => exact ih i (Nat.lt_of_succ_lt_succ h1) (Nat.lt_of_succ_lt_succ h2)
    cases e
    exact ⟨vs[i], rfl, go r i hi' hi⟩
  · rw [List.getElem?_append_right (by simpa using hi), List.getElem?_replicate] at e
    split at e <;> cases e
section
variable {P : Program} {w : World} {K : PySem.W.Frag} {mg : Str → Option Value} {base : Heap}
/-- THE RULE for a def -/
theorem def_ok {x qual : Str} {st : Stmt} {f : Addr} {fd : FuncData} {N ps : List Str} {k : Nat} {n : Nat} {keep : Bool} {body : Sig → AH → Out} {nN : Nat} (F : Fun K x qual st f fd) (S : FnScope N ps (defScope st)) (hn : n = ps.length) (hN : nN = N.length)
    (hbody : ∀ (cdv : Value) (A : Around) (outer : List Env) (s : Shared) (H : Hp) (E : XK), Room k (A.deeper (envOfC qual (defScope st) s.heap.objs.size f cdv)) →
      Gd (cxOf (L2.CX P w) P w K mg base N qual (defScope st) f cdv A outer s H E) (fun _ => E) →
      DSs (cxOf (L2.CX P w) P w K mg base N qual (defScope st) f cdv A outer s H E) (fun _ => E) (defBody st) body) : FnOk P w K mg base (L2.CX P w) (k + 1) f fd ps (spD ⟨K, mg⟩ (dDef nN n keep body)) := by
  subst hn hN
  refine F.okX S (fun vs H Q E h => ?_) fun cdv A outer s H vs Q E hr h => ?_
  · obtain ⟨as, ds, S, sr, r, w⟩ := h
    unfold dDef at w
    split at w
    · rename_i e
      rw [← e]
      exact Paired.length r
    · exact w.elim
  · refine ⟨_, hbody cdv A outer s H E hr ⟨rfl, takes_of rfl rfl rfl rfl, passes_of rfl⟩, ?_⟩
    obtain ⟨as, ds, S, sr, r, w⟩ := h
    unfold dDef at w
    split at w
    · rename_i e
      exact ⟨as, _, S, sr, er_start r e, gc_ok sr w⟩
    · exact w.elim
end
end
end DL
namespace DL
noncomputable section
open PySem PySem.Spec PyProof.Rows L2

/-! ### x[::-1] -/
section
variable {prog : Program} {w : World} {A : Around} {E : Value → Shared → Prop} {s : Shared}
theorem applied_rev {sl : Addr} {u : Tok} {n : Nat} {Q : Int × Int × Nat → Shared → Prop} (hs : s.heap.IsSliceOf sl .none .none (.int (-1) u)) (h : Q ((n : Int) - 1, -1, n) s) :
    wpAny (model prog w) A (Builtin.Slice.sliceApplied (.ref sl) (pure (n : Int))) Q E s := by
  obtain ⟨os, hos, hcs, hds⟩ := id hs
  unfold Builtin.Slice.sliceApplied Builtin.Slice.sliceFields
  refine wpAny_bind (wpAny_bind (wpAny_field hos hds (x := .none) rfl (wpAny_bind (wpAny_field hos hds (x := .none) rfl (wpAny_bind (wpAny_field hos hds (x := .int (-1) u) rfl (wpAny_pure ?_)))))))
  refine wpAny_bind (slicePart_int ?_)
  show wpAny _ _ (if ((-1 : Int) == 0) = true then _ else _) _ _ s
  rw [if_neg (by decide)]
  refine wpAny_bind (slicePart_none (wpAny_bind (slicePart_none (wpAny_bind (wpAny_pure ?_)))))
  show wpAny _ _ (match Builtin.Slice.sliceAdjust none none (-1) (n : Int) with | (lo, hi) => pure (lo, (-1 : Int), Builtin.Slice.slicePlaces lo hi (-1))) _ _ s
  have e1 : Builtin.Slice.sliceAdjust none none (-1) (n : Int) = ((n : Int) - 1, -1) := by
    unfold Builtin.Slice.sliceAdjust
    simp
  rw [e1]
  show wpAny _ _ (pure ((n : Int) - 1, (-1 : Int), Builtin.Slice.slicePlaces ((n : Int) - 1) (-1) (-1))) _ _ s
  have e2 : Builtin.Slice.slicePlaces ((n : Int) - 1) (-1) (-1) = n := by
    unfold Builtin.Slice.slicePlaces
    have h1 : ¬ ((-1 : Int) > 0) := by decide
    rw [if_neg h1]
    by_cases hn : n = 0
    · subst hn; rw [if_neg (by decide)]; rfl
    · rw [if_pos (by omega)]
      have : ((n : Int) - 1 - -1 - 1) / - -1 + 1 = n := by
        rw [show - (-1 : Int) = 1 by decide, Int.ediv_one]; omega
      rw [this]; exact Int.toNat_natCast n
  rw [e2]
  exact wpAny_pure h
theorem pick_rev (xs : Array Value) : ((List.range xs.size).filterMap fun (m : Nat) => xs[((xs.size : Int) - 1 + (m : Int) * (-1)).toNat]?) = xs.toList.reverse := by
  have e : ∀ m, m < xs.size → xs[((xs.size : Int) - 1 + (m : Int) * (-1)).toNat]? = xs.toList.reverse[m]? := by
    intro m hm
    have h1 : ((xs.size : Int) - 1 + (m : Int) * (-1)).toNat = xs.size - 1 - m := by omega
    rw [h1, List.getElem?_reverse (by simpa using hm)]
    simp
  have gen : ∀ (l : List Value) (f : Nat → Option Value), (∀ m, m < l.length → f m = l[m]?) → (List.range l.length).filterMap f = l := by
    intro l
    induction l with
    | nil => intro f _; rfl
    | cons a l ih =>
      intro f h
      rw [List.length_cons, List.range_succ_eq_map, List.filterMap_cons, h 0 (by simp)]
      simp only [List.getElem?_cons_zero]
      rw [List.filterMap_map, ih (f ∘ Nat.succ) (fun m hm => by
        have := h (m + 1) (by simpa using hm)
        simpa using this)]
  have hl : xs.toList.reverse.length = xs.size := by simp
  rw [← hl]
  refine gen _ _ fun m hm => ?_
  rw [hl] at hm ⊢
  exact e m hm
theorem getItem_tuple_rev {t sl : Addr} {items : Array Value} {u : Tok} {Q : Value → Shared → Prop} (ht : IsTup s.heap t items) (hs : s.heap.IsSliceOf sl .none .none (.int (-1) u))
    (h : Q (.ref s.heap.objs.size) { s with heap := s.heap.push { cls := .type "tuple", data := .seq items.toList.reverse.toArray } }) (hsz : items.size ≤ sizeLine) : wpAny (model prog w) A (getItem (.ref t) (.ref sl)) Q E s := by
  have htake : sizeOk (.seq items.toList.reverse.toArray) := by
    show items.toList.reverse.toArray.size ≤ sizeLine
    rw [List.size_toArray, List.length_reverse, Array.length_toList]
    exact hsz
  obtain ⟨os, hos, hcs, hds⟩ := id hs
  have hTs : s.TypeIs (.ref sl) "slice" := ⟨os, hos, hcs⟩
  unfold getItem
  try with_reducible refine wpAny_holding ?_
  first | refine wpAny_bind (wpAny_pure ?_) | skip
  refine wpAny_bind (wpAny_sequenceKey ht.typeIs (by decide) ?_)
  refine wpAny_bind (wpAny_callSpecial?_slot (name := Str.ofString "__getitem__") ht.typeIs PyProof.Rows.slot_tuple_getitem
    (wpAny_call_entry PyProof.Rows.slot_tuple_getitem ht.typeIs entry_tuple_getitem ?_ (args_tuple_getitem _ _)))
  show wpAny _ _ (Builtin.Tuple.tupleItemsOf (.ref t) >>= _) _ _ s
  refine wpAny_bind (tupleItemsOf_ ht ?_)
  refine wpAny_bind (wpAny_typeOf hTs ?_)
  rw [if_pos (by decide)]
  refine wpAny_bind (applied_rev hs ?_)
  have hno : ¬ (((items.size : Int) - 1 == 0 && (-1 : Int) == 1 && items.size == items.size) = true) := by
    intro q
    rw [Bool.and_eq_true, Bool.and_eq_true] at q
    exact absurd q.1.2 (by decide)
  show wpAny _ _ (if ((items.size : Int) - 1 == 0 && (-1 : Int) == 1 && items.size == items.size) = true then _ else _) _ _ s
  rw [if_neg hno, pick_rev]
  first
    | exact wpAny_bind (m := Builtin.Tuple.tupleExact _) (wpAny_newObj_type (wpAny_pure ⟨_, rfl, wpAny_pure h⟩) htake)
    | exact wpAny_bind (m := Builtin.Tuple.tupleExact _) (wpAny_newObj_type (wpAny_bind (wpAny_pure (wpAny_pure ⟨_, rfl, wpAny_pure h⟩))) htake)
    | exact wpAny_bind (wpAny_bind (m := Builtin.Tuple.tupleExact _) (wpAny_newObj_type (wpAny_pure (wpAny_pure ⟨_, rfl, wpAny_pure h⟩)) htake))
    | exact wpAny_bind (wpAny_bind (m := Builtin.Tuple.tupleExact _) (wpAny_newObj_type (wpAny_pure ⟨_, rfl, wpAny_pure h⟩) htake))
end
def tRevA (K : PySem.W.Frag) (te : TE) : TE := fun σ H Q => te σ H fun x H1 => (∃ a xs, x = .ref a ∧ SqL K H1 a xs ∧ ∀ p, H1 p = none → Q (.ref p) (upd H1 p (.lst xs.reverse))) ∨ (∃ a xs, x = .ref a ∧ SqT K H1 a xs ∧ NewT H1 Q xs.reverse)
theorem pe_revA {X : Cx} {e : Expr} {te : TE} {k : Nat} {p1 p2 p3 pos : Pos} (he : PE X e te) : PE X (.Subscript e (.Slice none none (some (.UnaryOp .USub (.Constant (.int 1) k p1) p2)) p3) pos) (tRevA X.K te) := by
  refine ⟨fun pins s σ H Q I h => ?_⟩
  refine Subscript_ (thn (he.run pins s σ H _ I h) fun v s1 ⟨x, H1, I1, r1, q1⟩ => ?_)
  have hst : PO X (some (.UnaryOp .USub (.Constant (.int 1) k p1) p2)) (tPart (tUn (rU fun i => .int (-i)) (tC (.int 1)))) := po_some (pe_un un_neg pe_int)
  rcases q1 with ⟨a, xs, ex, hx, q⟩ | ⟨a, xs, ex, hx, q⟩
  · subst ex
    cases r1
    refine wpAny_Slice (thn (po_none.run pins s1 σ H1 (fun o H2 => o = none ∧ H2 = H1) I1 ⟨rfl, rfl⟩) fun vl s2 ⟨l, H2, I2, pl, el, e2⟩ => ?_)
    subst el e2
    refine thn (po_none.run pins s2 σ H2 (fun o H3 => o = none ∧ H3 = H2) I2 ⟨rfl, rfl⟩) fun vu s3 ⟨u, H3, I3, pu, eu, e3⟩ => ?_
    subst eu e3
    refine thn (hst.run pins s3 σ H3 (fun o H4 => o = some (-1) ∧ H4 = H3) I3 ⟨1, rfl, -1, rfl, rfl, rfl⟩) fun vs s4 ⟨o, H4, I4, ps, eo, e4⟩ => ?_
    subst eo e4
    have I5 : Inv X pins σ H4 { s4 with heap := s4.heap.push { cls := .type "slice", data := .fields #[vl, vu, vs] } } := I4.kept (t' := s4.toks) fun b ob q => Heap.get?_push_of_some _ q
    obtain ⟨its, r, ht, hz⟩ := I5.list hx
    have hlen := r.length
    show wpAny (model X.prog X.w) X.A (subscriptTail e (.Slice none none (some (.UnaryOp .USub (.Constant (.int 1) k p1) p2)) p3) (.ref a) (.ref s4.heap.objs.size)) (EP X pins σ Q) X.xe { s4 with heap := s4.heap.push { cls := .type "slice", data := .fields #[vl, vu, vs] } }
    refine tail_any (ops := [.ref a, .ref s4.heap.objs.size]) ht.isList.typeIs (PySem.slot_list_getitem.lookup) ?_ (by with_unfolding_all rfl)
    refine wpAny_getItem_list_slice ht.isList (Heap.IsSliceOf.new _ vl vu vs) pl pu ps (by decide) ?_ (by rw [List.size_toArray]; omega)
    rw [PySem.W.krv_pick]
    refine ⟨.ref _, _, I5.laid (t' := s4.toks) (o := .lst xs.reverse) (fun b ob q => Heap.get?_push_of_some _ q) (Nat.le_refl _) ?_, rfl, q _ (I5.hok.fresh (Nat.le_refl _))⟩
    exact ⟨by rw [List.length_reverse]; exact hz, _, 0, r.reverse, Heap.get?_push_size _ rfl⟩
  · subst ex
    cases r1
    refine wpAny_Slice (thn (po_none.run pins s1 σ H1 (fun o H2 => o = none ∧ H2 = H1) I1 ⟨rfl, rfl⟩) fun vl s2 ⟨l, H2, I2, pl, el, e2⟩ => ?_)
    subst el e2
    refine thn (po_none.run pins s2 σ H2 (fun o H3 => o = none ∧ H3 = H2) I2 ⟨rfl, rfl⟩) fun vu s3 ⟨u, H3, I3, pu, eu, e3⟩ => ?_
    subst eu e3
    refine thn (hst.run pins s3 σ H3 (fun o H4 => o = some (-1) ∧ H4 = H3) I3 ⟨1, rfl, -1, rfl, rfl, rfl⟩) fun vs s4 ⟨o, H4, I4, ps, eo, e4⟩ => ?_
    subst eo e4
    have I5 : Inv X pins σ H4 { s4 with heap := s4.heap.push { cls := .type "slice", data := .fields #[vl, vu, vs] } } := I4.kept (t' := s4.toks) fun b ob q => Heap.get?_push_of_some _ q
    obtain ⟨its, r, ht, hz⟩ := I5.tuple hx
    have hlen := r.length
    cases pl
    cases pu
    obtain ⟨t5, rfl⟩ : ∃ t, vs = Value.int (-1) t := by cases ps; exact ⟨_, rfl⟩
    show wpAny (model X.prog X.w) X.A (subscriptTail e (.Slice none none (some (.UnaryOp .USub (.Constant (.int 1) k p1) p2)) p3) (.ref a) (.ref s4.heap.objs.size)) (EP X pins σ Q) X.xe _
    refine tail_any (ops := [.ref a, .ref s4.heap.objs.size]) ht.typeIs (PyProof.Rows.slot_tuple_getitem.lookup) ?_ (by with_unfolding_all rfl)
    refine getItem_tuple_rev ht (Heap.IsSliceOf.new _ .none .none _) ?_ (by rw [List.size_toArray]; omega)
    exact lay_tup I5 (by rw [List.length_reverse]; exact hz) r.reverse q
def revO : Op1 := fun a S => match a with
  | .p (.tup xs) => some (.p (.tup xs.reverse), S)
  | _ => match litems a S with
    | some xs => some (.p (.lst xs.reverse), S)
    | none => none
section
variable {X : Cx} {E : L2.St → XK} {a : Expr} {k : Nat} {p1 p2 p3 pos : Pos} {fa : Sig → AH → Res DV}
theorem de_rev (ha : DE X E a fa) : DE X E (.Subscript a (.Slice none none (some (.UnaryOp .USub (.Constant (.int 1) k p1) p2)) p3) pos) (dUn revO fa) := (pe_revA ha).imp fun σ H Q ⟨as, δ, S, sr, er, w⟩ =>
  ⟨as, δ, S, sr, er, w.bind.mono fun _ _ _ _ _ _ _ _ _ ⟨as1, S1, d1, _, x1, s1, r1, w1⟩ => by
    unfold revO at w1
    split at w1
    · cases r1 with
      | tup h t => exact .inr ⟨_, _, rfl, h.sq, WO.tup (ps := _) (S := S1) (fun as' H' b => w1 as' H' b) s1 (by rw [List.length_reverse]; exact h.1) t.reverse⟩
    · split at w1
      · rename_i xs e
        obtain ⟨a, vs, rfl, z, q, t⟩ := litems_sq s1 r1 e
        exact .inl ⟨_, _, rfl, q, fun p n => WO.lst (ps := _) (S := S1) (fun as' H' b => w1 as' H' b) s1 (by rw [List.length_reverse]; exact z) t.reverse n⟩
      · exact w1.elim⟩
end

/-! ### methods of lists -/
abbrev OpM := DV → List DV → AH → Option (DV × AH)
def rMD (M : Wd) (o : OpM) : V → List V → Hp → VK → Prop := fun x vs H Q => ∃ as S d ds, SR M as H S ∧ DVR M as H x d ∧ DVRs M as H vs ds ∧ WO M as H (o d ds S) Q
def isLst (d : DV) (S : AH) : Bool := (litems d S).isSome || (nitems d S).isSome
theorem isLst_sq {M : Wd} {as : As} {H : Hp} {S : AH} {d : DV} {v : V} (h : SR M as H S) (r : DVR M as H v d) (e : isLst d S = true) : ∃ a vs, v = .ref a ∧ SqL M.K H a vs := by
  unfold isLst at e
  rcases Bool.or_eq_true_iff.mp e with e | e
  · obtain ⟨xs, e1⟩ := Option.isSome_iff_exists.mp e
    obtain ⟨a, vs, rfl, z, q, t⟩ := litems_sq h r e1
    exact ⟨a, vs, rfl, q⟩
  · obtain ⟨xs, e1⟩ := Option.isSome_iff_exists.mp e
    obtain ⟨a, vs, rfl, z, q, t⟩ := nitems_sq h r e1
    exact ⟨a, vs, rfl, .of q⟩
def dMeth (o : OpM) (fo : Sig → AH → Res DV) (fs : Sig → AH → Res (List DV)) : Sig → AH → Res DV := fun δ S => (fo δ S).bind fun d S => if isLst d S = true then (fs δ S).bind fun ds S => lift (o d ds S) else .bad
def dMeth0 (o : OpM) (fo : Sig → AH → Res DV) : Sig → AH → Res DV := fun δ S => (fo δ S).bind fun d S => if isLst d S = true then lift (o d [] S) else .bad
section
variable {X : Cx} {E : L2.St → XK} {ob e : Expr} {es : List Expr} {name : Str} {id : String} {apos cpos : Pos} {o : OpM} {fo : Sig → AH → Res DV} {fs : Sig → AH → Res (List DV)}
theorem de_meth (slot : Slot "list" name id) (hty : typeOf (.builtin id) = pure (.type "method_descriptor")) (hm : MtR X id (rMD (wd X) o)) (ho : DE X E ob fo) (ha : DA X E (e :: es) fs)
    (hbase : attributeBase ob name X.env (eval ob X.env) = eval ob X.env := by rfl)
    (hfew : ((backTo cpos (starEach (e :: es) X.env)).all (fun x => !x.1) && (backToKw cpos (keywordEach [] X.env)).all (fun x => x.1.isSome)
      && decide ((e :: es).length + ([] : List Keyword).length + (if ([] : List Keyword).isEmpty then 0 else 1) < 30)) = true := by rfl)
    (hline : (apos.endLine == cpos.line) = true := by rfl) (hs : starEach (e :: es) X.env = (false, eval e X.env) :: starEach es X.env := by rfl) (hplain : (backTo cpos (starEach es X.env)).any (·.1) = false := by rfl) :
    DE X E (.Call (.Attribute ob name apos) (e :: es) [] cpos) (dMeth o fo fs) := (pe_bm PySem.F.plainAttrs_list slot hty hm ho ha hbase hfew hline hs hplain).imp fun σ H Q ⟨as, δ, S, sr, er, w⟩ =>
  ⟨as, δ, S, sr, er, w.bind.mono fun _ _ _ _ _ _ _ _ _ ⟨as1, S1, d1, _, x1, s1, r1, w1⟩ => by
    split at w1
    · rename_i e1
      obtain ⟨a, vs, rfl, q⟩ := isLst_sq s1 r1 e1
      exact ⟨.inl ⟨rfl, _, q⟩, as1, δ, S1, s1, er.mono x1.w, w1.bind.mono fun _ _ _ _ _ _ _ _ _ ⟨as2, S2, d2, _, x2, s2, r2, w2⟩ => ⟨as2, S2, d1, d2, s2, r1.mono x2.w, r2, w2.wo⟩⟩
    · exact w1.elim⟩
theorem de_meth0 (slot : Slot "list" name id) (hty : typeOf (.builtin id) = pure (.type "method_descriptor")) (hm : MtR X id (rMD (wd X) o)) (ho : DE X E ob fo)
    (hbase : attributeBase ob name X.env (eval ob X.env) = eval ob X.env := by rfl) (hline : (apos.endLine == cpos.line) = true := by rfl) :
    DE X E (.Call (.Attribute ob name apos) [] [] cpos) (dMeth0 o fo) := (pe_bm0 PySem.F.plainAttrs_list slot hty hm ho hbase hline).imp fun σ H Q ⟨as, δ, S, sr, er, w⟩ =>
  ⟨as, δ, S, sr, er, w.bind.mono fun _ _ _ _ _ _ _ _ _ ⟨as1, S1, d1, _, x1, s1, r1, w1⟩ => by
    split at w1
    · rename_i e1
      obtain ⟨a, vs, rfl, q⟩ := isLst_sq s1 r1 e1
      exact ⟨.inl ⟨rfl, _, q⟩, as1, S1, d1, [], s1, r1, .nil, w1.wo⟩
    · exact w1.elim⟩
end
def appendM : OpM := fun d ds S => match d, ds with
  | .c n, [.p x] => match S[n]? with
    | some (.lst xs) => if xs.length < 16777216 then some (.p .non, S.set n (.lst (xs ++ [x]))) else none
    | _ => none
  | .c n, [.c k] => match S[n]? with
    | some (.nst ks) => if ks.length < 16777216 then some (.p .non, S.set n (.nst (ks ++ [k]))) else none
    | _ => none
  | _, _ => none
def popM : OpM := fun d ds S => match d, ds with
  | .c n, [] => match S[n]? with
    | some (.lst xs) => match xs[xs.length - 1]? with
      | some y => some (.p y, S.set n (.lst xs.dropLast))
      | none => none
    | _ => none
  | .c n, [.p (.int i)] => match S[n]? with
    | some (.lst xs) => if 0 ≤ i ∧ i < 1000000 then match xs[i.toNat]? with
        | some y => some (.p y, S.set n (.lst (xs.eraseIdx i.toNat)))
        | none => none
      else none
    | _ => none
  | _, _ => none
theorem PRs.eraseIdx {M : Wd} {as : As} {H : Hp} : ∀ {vs : List V} {ps : List PV} (i : Nat), PRs M as H vs ps → PRs M as H (vs.eraseIdx i) (ps.eraseIdx i)
  | _, _, _, .nil => .nil
  | _, _, 0, .cons _ t => t
  | _, _, i + 1, .cons r t => .cons r (PRs.eraseIdx i t)
/-- xs.remove(k) of numbers: the first one -/
def remM : OpM := fun d ds S => match d, ds with
  | .c n, [.p (.int k)] => match S[n]? with
    | some (.lst xs) => match intsOf xs with
      | some ns => if k ∈ ns then some (.p .non, S.set n (.lst ((ns.erase k).map PV.int))) else none
      | none => none
    | _ => none
  | _, _ => none
def cntM : OpM := fun d ds S => match ds with
  | [.p (.int k)] => match (litems d S).bind intsOf with
    | some ns => some (.p (.int (ns.count k : Nat)), S)
    | none => none
  | _ => none
def idxM : OpM := fun d ds S => match ds with
  | [.p (.int k)] => match (litems d S).bind intsOf with
    | some ns => if k ∈ ns then some (.p (.int (ns.idxOf k : Nat)), S) else none
    | none => none
  | _ => none
theorem idxOf_first : ∀ (ns : List Int) (k : Int) (m : Nat), m < ns.idxOf k → ns[m]? ≠ some k
  | [], _, _, h => by simp at h
  | a :: r, k, m, h => by
    rw [List.idxOf_cons] at h
    by_cases e : a = k
    · subst e; simp at h
    · have e' : (a == k) = false := beq_eq_false_iff_ne.mpr e
      rw [e'] at h
      simp only [cond_false] at h
      cases m with
      | zero => simpa using e
      | succ m =>
        rw [List.getElem?_cons_succ]
        exact idxOf_first r k m (by omega)
section
variable {X : Cx}
theorem ow_append : MtR X "list.append" (rMD (wd X) appendM) := by
  intro pins s σ H x vs v us Q I rx rv h
  obtain ⟨as, S, d, ds, sr, r1, r2, w⟩ := h
  unfold appendM at w
  split at w
  · obtain ⟨a, ea, rfl⟩ := r1
    obtain ⟨y, rfl, ry⟩ := DVRs.one r2
    split at w
    · rename_i xs e
      split at w
      · rename_i hz
        obtain ⟨b, ws, eb, z, hb, t⟩ := sr.at e
        rw [ea] at eb; cases eb
        have hl := t.length
        have hs : sizeLine = 16777216 := by decide
        have z2 : (ws ++ [y]).length ≤ sizeLine := by rw [List.length_append, List.length_singleton]; omega
        exact mt_append pins s σ H _ _ v us Q I rx rv ⟨_, _, _, rfl, rfl, hb, by omega, w as _ _ (ext_write sr ea hb) (sr.write ea hb z2 (t.append (.cons ry .nil))) .non⟩
      · exact w.elim
    · exact w.elim
  · obtain ⟨a, ea, rfl⟩ := r1
    obtain ⟨y, rfl, ry⟩ := DVRs.one r2
    split at w
    · rename_i ks e
      split at w
      · rename_i hz
        obtain ⟨b, ws, eb, z, hb, t⟩ := sr.atN e
        rw [ea] at eb; cases eb
        have hl := t.length
        have hs : sizeLine = 16777216 := by decide
        have z2 : (ws ++ [y]).length ≤ sizeLine := by rw [List.length_append, List.length_singleton]; omega
        exact mt_append pins s σ H _ _ v us Q I rx rv ⟨_, _, _, rfl, rfl, hb, by omega, w as _ _ (ext_write sr ea hb) (sr.writeNest ea hb z2 (t.append (.cons ry .nil))) .non⟩
      · exact w.elim
    · exact w.elim
  · exact w.elim
theorem ow_pop : MtR X "list.pop" (rMD (wd X) popM) := by
  intro pins s σ H x vs v us Q I rx rv h
  obtain ⟨as, S, d, ds, sr, r1, r2, w⟩ := h
  unfold popM at w
  split at w
  · obtain ⟨a, ea, rfl⟩ := r1
    cases r2
    split at w
    · rename_i xs e
      split at w
      · rename_i y ey
        obtain ⟨b, ws, eb, z, hb, t⟩ := sr.at e
        rw [ea] at eb; cases eb
        obtain ⟨yv, e2, r3⟩ := t.get ey
        rw [← t.length] at e2
        have z2 : ws.dropLast.length ≤ sizeLine := by rw [List.length_dropLast]; omega
        have x := ext_write (o := .lst ws.dropLast) sr ea hb
        exact mt_pop pins s σ H _ _ v us Q I rx rv ⟨_, _, _, rfl, rfl, hb, e2, w as _ _ x (sr.write ea hb z2 t.dropLast) (PR.mono x.w r3)⟩
      · exact w.elim
    · exact w.elim
  · obtain ⟨a, ea, rfl⟩ := r1
    obtain ⟨y, rfl, ry⟩ := DVRs.one r2
    cases ry
    rename_i i
    split at w
    · rename_i xs e
      split at w
      · rename_i hi
        split at w
        · rename_i y ey
          obtain ⟨b, ws, eb, z, hb, t⟩ := sr.at e
          rw [ea] at eb; cases eb
          obtain ⟨yv, e2, r3⟩ := t.get ey
          have hlt := (List.getElem?_eq_some_iff.mp e2).1
          have x := ext_write (o := .lst (ws.eraseIdx i.toNat)) sr ea hb
          exact mt_popAt pins s σ H _ _ v us Q I rx rv ⟨_, _, _, _, _, rfl, rfl, hb, by omega, by omega, seqIndex_of hi.1 (by omega), e2, w as _ _ x (sr.write ea hb (Nat.le_trans (L2.len_erase _ _) z) (t.eraseIdx _)) (PR.mono x.w r3)⟩
        · exact w.elim
      · exact w.elim
    · exact w.elim
  · exact w.elim
theorem ow_remove : MtR X "list.remove" (rMD (wd X) remM) := by
  intro pins s σ H x vs v us Q I rx rv h
  obtain ⟨as, S, d, ds, sr, r1, r2, w⟩ := h
  unfold remM at w
  split at w
  · obtain ⟨a, ea, rfl⟩ := r1
    obtain ⟨y, rfl, ry⟩ := DVRs.one r2
    cases ry
    rename_i k
    split at w
    · rename_i xs e
      split at w
      · rename_i ns en
        split at w
        · rename_i hk
          obtain ⟨b, ws, eb, z, hb, t⟩ := sr.at e
          rw [ea] at eb; cases eb
          rw [intsOf_ok en] at t
          rw [t.ints] at hb z
          have hlt := List.idxOf_lt_length_iff.mpr hk
          have e1 : ns[ns.idxOf k]? = some k := by
            rw [List.getElem?_eq_getElem hlt, List.getElem_idxOf hlt]
          rw [List.erase_eq_eraseIdx_of_idxOf rfl] at w
          refine mt_remove pins s σ H _ _ v us Q I rx rv ⟨_, ns, _, _, rfl, rfl, hb, e1, fun m hm q => ?_, w as _ _ (ext_write sr ea hb) (sr.write ea hb ?_ (PRs.of_ints _)) .non⟩
          · exact idxOf_first ns k m hm q
          · rw [List.length_map] at z ⊢
            exact Nat.le_trans (L2.len_erase _ _) z
        · exact w.elim
      · exact w.elim
    · exact w.elim
  · exact w.elim
theorem ow_count : MtR X "list.count" (rMD (wd X) cntM) := by
  intro pins s σ H x vs v us Q I rx rv h
  obtain ⟨as, S, d, ds, sr, r1, r2, w⟩ := h
  unfold cntM at w
  split at w
  · obtain ⟨y, rfl, ry⟩ := DVRs.one r2
    cases ry
    split at w
    · rename_i ns e
      simp only [Option.bind_eq_some_iff] at e
      obtain ⟨xs, e1, e2⟩ := e
      obtain ⟨a, ws, rfl, z, q, t⟩ := litems_sq sr r1 e1
      rw [intsOf_ok e2] at t
      rw [t.ints] at q
      exact mt_lcount pins s σ H _ _ v us Q I rx rv ⟨_, ns, _, rfl, rfl, q, w.here sr (.int _)⟩
    · exact w.elim
  · exact w.elim
end
end
end DL
namespace DL
noncomputable section
open PySem PySem.Spec PyProof.Rows L2

abbrev ltO : Op2 := cmpO fun i j => decide (i < j)
abbrev leO : Op2 := cmpO fun i j => decide (i ≤ j)
abbrev gtO : Op2 := cmpO fun i j => decide (j < i)
abbrev geO : Op2 := cmpO fun i j => decide (j ≤ i)
theorem b_len : bootBuiltins "len" = some (.builtin "len") := by decide +kernel
theorem b_abs : bootBuiltins "abs" = some (.builtin "abs") := by decide +kernel
theorem b_sum : bootBuiltins "sum" = some (.builtin "sum") := by decide +kernel
theorem b_all : bootBuiltins "all" = some (.builtin "all") := by decide +kernel
theorem b_any : bootBuiltins "any" = some (.builtin "any") := by decide +kernel
theorem b_min : bootBuiltins "min" = some (.builtin "min") := by decide +kernel
theorem b_max : bootBuiltins "max" = some (.builtin "max") := by decide +kernel
theorem b_sorted : bootBuiltins "sorted" = some (.builtin "sorted") := by decide +kernel
theorem b_int : bootBuiltins "int" = some (.type "int") := by decide +kernel
theorem b_bool : bootBuiltins "bool" = some (.type "bool") := by decide +kernel
theorem b_str : bootBuiltins "str" = some (.type "str") := by decide +kernel
theorem b_tuple : bootBuiltins "tuple" = some (.type "tuple") := by decide +kernel
theorem b_list : bootBuiltins "list" = some (.type "list") := by decide +kernel
section
variable {P : Program} {w : World} {K : PySem.W.Frag} {mg : Str → Option Value} {base : Heap} {CX : CXT}
theorem fn_bad {k : Nat} {f : Addr} {fd : FuncData} {ps : List Str} {B : Wd} : FnOk P w K mg base CX k f fd ps (spD B fun _ _ => .bad) := by
  have no : ∀ vs H Q E, ¬ spD B (fun _ _ => .bad) vs H Q E := fun vs H Q E ⟨_, _, _, _, _, h⟩ => h
  exact ⟨fun vs H Q E h => absurd h (no vs H Q E), fun A outer s H args us vs Q E _ _ _ _ h => absurd h (no vs H Q E)⟩
end
/-- what the law's def is to promise -/
def spLawD (K : PySem.W.Frag) : Sp := fun vs H Q E => ∃ (a : Addr) (ns : List Int), vs = [.ref a] ∧ Only H ∧ SqL K H a (ns.map V.int) ∧ ns.length ≤ 63 ∧ ∀ H', Q (.bl true) H'
theorem law_end {K : PySem.W.Frag} {mg : Str → Option Value} {F : List DV → AH → Res DV} (ht : ∀ ns : List Int, ns.length ≤ 63 → ∃ S, F [.p (.fro (ns.map PV.int))] [] = .ok (.p (.bl true)) S)
    {vs : List V} {H : Hp} {Q : VK} {E : XK} (h : spLawD K vs H Q E) : spD ⟨K, mg⟩ F vs H Q E := by
  obtain ⟨a, ns, rfl, hO, hS, h63, q⟩ := h
  obtain ⟨S, e⟩ := ht ns h63
  have z : (ns.map V.int).length ≤ sizeLine := by rw [List.length_map]; exact Nat.le_trans h63 (by decide)
  have r : RdF K ⟨[], fun _ => False⟩ H a (ns.map V.int) := by
    refine ⟨z, ?_⟩
    rcases hS with (hS | ⟨o, hS⟩) | hS
    · rcases hO a with n | ⟨o, xs, n⟩
      · rw [n] at hS; cases hS
      · rw [n] at hS; cases hS
    · exact .inl ⟨⟨o, hS⟩, (by simp), fun z => z⟩
    · exact .inr hS
  refine ⟨⟨[], fun _ => False⟩, [.p (.fro (ns.map PV.int))], [], ⟨rfl, List.nodup_nil, (fun _ _ z => z), (fun _ z => z.elim), fun i a c e1 _ => by simp at e1⟩, .cons (.fro (M := ⟨K, mg⟩) r (PRs.of_ints ns)) .nil, ?_⟩
  rw [e]
  intro as' H' b x s rr
  cases rr
  exact q H'
theorem walkD {l : PySem.W.OpenLaw} {k : Nat} {q : Program} {loose : List Str} {XP : (Str → Option Value) → Heap → Prop} {YP : World → Heap → Prop} {d : DefRec} {K : Params → PySem.W.Frag} (hn : l.most = some 63) (hdf : d.params.defaults = []) (hr : Room k callerA)
    (hY : ∀ (w : World) (h : Heap), YP w h → (K w.params).In h)
    (F : ∀ (w : World) (mg : Str → Option Value) (fa : Addr) (h : Heap), (K w.params).In h → h.Ns mainGlobals mg → mg d.name = some (.ref fa) →
      ∃ fd : FuncData, (∀ (s : Shared) (u : Value), BindsTo s fd ⟨[u], []⟩ [("script", u)]) ∧ ∀ base : Heap, FnOk l.prog w (K w.params) mg base (L2.CX l.prog w) k fa fd ["script"] (spLawD (K w.params))) :
    PySem.W.WalkO q loose XP YP l.row.toRowW d [] (fun f vs => PySem.call f vs) :=
  L2.walk_of (n := 63) (k := k) (x := "script") (CX := fun w => L2.CX l.prog w) (sp := fun w => spLawD (K w.params)) hn (by decide) hdf hr hY
    (fun w mg fa h KX G hm => let ⟨fd, hb, hF⟩ := F w mg fa h KX G hm; ⟨fd, hb, fun base _ _ => hF base⟩)
    (fun w H a ns hl hO hS => ⟨a, ns, rfl, hO, hS, hl, fun _ => rfl⟩)
    fun w H s e s' h => by
      obtain ⟨_, _, _, _, _, _, _, _, _, _, _, _, z⟩ := h
      exact z
/-- a class is caught by its own name -/
theorem sub_ok {K : PySem.W.Frag} {C : Addr} {x n : Str} {b : Bool} {cls : Value} {mg : Str → Option Value} (i : PySem.W.isClsIn K C = true) (t : PySem.W.typeIn K (.ref C) = some (.type "type")) (bb : PySem.W.subIn K (.ref C) (.type "BaseException") = some true) (s : PySem.W.subIn K (.ref C) (.ref C) = some true)
    (m : mg x = some (.ref C)) (hs : (if n = x then some true else none) = some b) (hm : mg n = some cls) : PySem.W.exmOne K cls (.ref C) = some b := by
  split at hs
  · rename_i e
    subst e
    cases hs
    rw [m] at hm
    cases hm
    have k1 : (PySem.W.subIn K (.ref C) (.type "BaseException") == some true) = true := by rw [bb] <;> rfl
    have k3 : (PySem.W.clsIn K C).isSome = true := i
    have k2 : ((PySem.W.clsIn K C).isSome && PySem.W.typeIn K (.ref C) == some (.type "type")) = true := by rw [k3, t] <;> rfl
    unfold PySem.W.exmOne PySem.W.kitCls
    simp only [k1, k2, if_true, s]
  · cases hs
end
end DL
namespace DL
noncomputable section
open PySem L2

/-! ### evaluation by simp: continuations as constants, so that nothing is looked at ahead of its turn -/
section
variable {α : Type} {δ : Sig} {S : AH} {fa fb fc : Sig → AH → Res DV} {ga gb : Sig → AH → Res Bool} {fs : Sig → AH → Res (List DV)} {fl : Sig → AH → Res (List PV)} {f g : Sig → AH → Out}
def vget (o : Option (Option DV)) (S : AH) : Res DV := match o with
  | some (some d) => .ok d S
  | _ => .bad
@[simp] theorem vget_some {d : DV} : vget (some (some d)) S = .ok d S := (rfl)
@[simp] theorem ev_var {i : Nat} : dVar i δ S = vget δ[i]? S := by
  unfold dVar vget
  rfl
@[simp] theorem ev_con {v : PV} : dC v δ S = .ok (.p v) S := (rfl)
def kUn (o : Op1) (a : DV) (S : AH) : Res DV := lift (o a S)
@[simp] theorem ev_un {o : Op1} : dUn o fa δ S = (fa δ S).bind (kUn o) := (rfl)
@[simp] theorem ev_kUn {o : Op1} {a : DV} : kUn o a S = lift (o a S) := (rfl)
def kBin (o : Op2) (fb : Sig → AH → Res DV) (δ : Sig) (a : DV) (S : AH) : Res DV := (fb δ S).bind fun b S => lift (o a b S)
def kBin2 (o : Op2) (a b : DV) (S : AH) : Res DV := lift (o a b S)
@[simp] theorem ev_bin {o : Op2} : dBin o fa fb δ S = (fa δ S).bind (kBin o fb δ) := (rfl)
@[simp] theorem ev_kBin {o : Op2} {a : DV} : kBin o fb δ a S = (fb δ S).bind (kBin2 o a) := (rfl)
@[simp] theorem ev_kBin2 {o : Op2} {a b : DV} : kBin2 o a b S = lift (o a b S) := (rfl)
@[simp] theorem ev_nil : dNil δ S = .ok [] S := (rfl)
def kCons (fr : Sig → AH → Res (List DV)) (δ : Sig) (a : DV) (S : AH) : Res (List DV) := (fr δ S).bind fun r S => .ok (a :: r) S
def kCons2 (a : DV) (r : List DV) (S : AH) : Res (List DV) := .ok (a :: r) S
@[simp] theorem ev_cons : dCons fa fs δ S = (fa δ S).bind (kCons fs δ) := (rfl)
@[simp] theorem ev_kCons {a : DV} : kCons fs δ a S = (fs δ S).bind (kCons2 a) := (rfl)
@[simp] theorem ev_kCons2 {a : DV} {r : List DV} : kCons2 a r S = .ok (a :: r) S := (rfl)
def kApp (o : OpN) (ds : List DV) (S : AH) : Res DV := lift (o ds S)
@[simp] theorem ev_app {o : OpN} : dApp o fs δ S = (fs δ S).bind (kApp o) := (rfl)
@[simp] theorem ev_kApp {o : OpN} {ds : List DV} : kApp o ds S = lift (o ds S) := (rfl)
def kTru (a : DV) (S : AH) : Res Bool := lift ((truD a S).map fun k => (k, S))
@[simp] theorem ev_tru : dTru fa δ S = (fa δ S).bind kTru := (rfl)
@[simp] theorem ev_kTru_bl {b : Bool} : kTru (.p (.bl b)) S = .ok b S := (rfl)
@[simp] theorem ev_kTru_int {i : Int} : kTru (.p (.int i)) S = .ok (i != 0) S := (rfl)
@[simp] theorem ev_kTru_non : kTru (.p .non) S = .ok false S := (rfl)
def kNot (a : Bool) (S : AH) : Res Bool := .ok (!a) S
@[simp] theorem ev_not : dNot ga δ S = (ga δ S).bind kNot := (rfl)
@[simp] theorem ev_kNot {a : Bool} : kNot a S = .ok (!a) S := (rfl)
def kAnd (gb : Sig → AH → Res Bool) (δ : Sig) (a : Bool) (S : AH) : Res Bool := if a = true then gb δ S else .ok false S
def kOr (gb : Sig → AH → Res Bool) (δ : Sig) (a : Bool) (S : AH) : Res Bool := if a = true then .ok true S else gb δ S
@[simp] theorem ev_and : dAnd ga gb δ S = (ga δ S).bind (kAnd gb δ) := (rfl)
@[simp] theorem ev_or : dOr ga gb δ S = (ga δ S).bind (kOr gb δ) := (rfl)
@[simp] theorem ev_kAnd_t : kAnd gb δ true S = gb δ S := (rfl)
@[simp] theorem ev_kAnd_f : kAnd gb δ false S = .ok false S := (rfl)
@[simp] theorem ev_kOr_t : kOr gb δ true S = .ok true S := (rfl)
@[simp] theorem ev_kOr_f : kOr gb δ false S = gb δ S := (rfl)
def kAndV (fb : Sig → AH → Res DV) (δ : Sig) (a : DV) (S : AH) : Res DV := match truD a S with
  | some k => if k = true then fb δ S else .ok a S
  | none => .bad
def kOrV (fb : Sig → AH → Res DV) (δ : Sig) (a : DV) (S : AH) : Res DV := match truD a S with
  | some k => if k = true then .ok a S else fb δ S
  | none => .bad
@[simp] theorem ev_andV : dAndV fa fb δ S = (fa δ S).bind (kAndV fb δ) := (rfl)
@[simp] theorem ev_orV : dOrV fa fb δ S = (fa δ S).bind (kOrV fb δ) := (rfl)
@[simp] theorem ev_kAndV_t : kAndV fb δ (.p (.bl true)) S = fb δ S := (rfl)
@[simp] theorem ev_kAndV_f : kAndV fb δ (.p (.bl false)) S = .ok (.p (.bl false)) S := (rfl)
@[simp] theorem ev_kOrV_t : kOrV fb δ (.p (.bl true)) S = .ok (.p (.bl true)) S := (rfl)
@[simp] theorem ev_kOrV_f : kOrV fb δ (.p (.bl false)) S = fb δ S := (rfl)
def kNotV (a : DV) (S : AH) : Res DV := lift ((truD a S).map fun k => (.p (.bl (!k)), S))
@[simp] theorem ev_notV : dNotV fa δ S = (fa δ S).bind kNotV := (rfl)
@[simp] theorem ev_kNotV {b : Bool} : kNotV (.p (.bl b)) S = .ok (.p (.bl (!b))) S := (rfl)
def kIte (fa fb : Sig → AH → Res DV) (δ : Sig) (c : Bool) (S : AH) : Res DV := if c = true then fa δ S else fb δ S
@[simp] theorem ev_ite : dIte ga fa fb δ S = (ga δ S).bind (kIte fa fb δ) := (rfl)
@[simp] theorem ev_kIte_t : kIte fa fb δ true S = fa δ S := (rfl)
@[simp] theorem ev_kIte_f : kIte fa fb δ false S = fb δ S := (rfl)
def kCh3 (o' : Op2) (b c : DV) (S : AH) : Res DV := lift (o' b c S)
def kCh2 (o' : Op2) (fc : Sig → AH → Res DV) (δ : Sig) (b k : DV) (S : AH) : Res DV := match k with
  | .p (.bl true) => (fc δ S).bind (kCh3 o' b)
  | .p (.bl false) => .ok (.p (.bl false)) S
  | _ => .bad
def kCh1 (o o' : Op2) (fc : Sig → AH → Res DV) (δ : Sig) (a b : DV) (S : AH) : Res DV := (lift (o a b S)).bind (kCh2 o' fc δ b)
def kCh (o o' : Op2) (fb fc : Sig → AH → Res DV) (δ : Sig) (a : DV) (S : AH) : Res DV := (fb δ S).bind (kCh1 o o' fc δ a)
@[simp] theorem ev_chain {o o' : Op2} : dChain o o' fa fb fc δ S = (fa δ S).bind (kCh o o' fb fc δ) := (rfl)
@[simp] theorem ev_kCh {o o' : Op2} {a : DV} : kCh o o' fb fc δ a S = (fb δ S).bind (kCh1 o o' fc δ a) := (rfl)
@[simp] theorem ev_kCh1 {o o' : Op2} {a b : DV} : kCh1 o o' fc δ a b S = (lift (o a b S)).bind (kCh2 o' fc δ b) := (rfl)
@[simp] theorem ev_kCh2_t {o' : Op2} {b : DV} : kCh2 o' fc δ b (.p (.bl true)) S = (fc δ S).bind (kCh3 o' b) := (rfl)
@[simp] theorem ev_kCh2_f {o' : Op2} {b : DV} : kCh2 o' fc δ b (.p (.bl false)) S = .ok (.p (.bl false)) S := (rfl)
@[simp] theorem ev_kCh3 {o' : Op2} {b c : DV} : kCh3 o' b c S = lift (o' b c S) := (rfl)
def kBl (a : DV) (S : AH) : Res Bool := match a with
  | .p (.bl k) => .ok k S
  | _ => .bad
@[simp] theorem ev_blOf : blOf fa δ S = (fa δ S).bind kBl := (rfl)
@[simp] theorem ev_kBl {b : Bool} : kBl (.p (.bl b)) S = .ok b S := (rfl)
def kTup (ds : List DV) (S : AH) : Res DV := match pvs ds with
  | some ps => if ps.length ≤ 1000 then .ok (.p (.tup ps)) S else .bad
  | none => .bad
@[simp] theorem ev_tup : dTup fs δ S = (fs δ S).bind DL.kTup := (rfl)
def kLst (ds : List DV) (S : AH) : Res (List PV) := match pvs ds with
  | some ps => if ps.length ≤ 1000 then .ok ps S else .bad
  | none => .bad
@[simp] theorem ev_lst : dLst fs δ S = (fs δ S).bind kLst := (rfl)
def kVal (ps : List PV) (S : AH) : Res DV := .ok (.p (.lst ps)) S
@[simp] theorem ev_val : dVal fl δ S = (fl δ S).bind kVal := (rfl)
@[simp] theorem ev_kVal {ps : List PV} : kVal ps S = .ok (.p (.lst ps)) S := (rfl)
def kCell (ps : List PV) (S : AH) : Res DV := .ok (.c S.length) (S ++ [.lst ps])
@[simp] theorem ev_cell : dCell fl δ S = (fl δ S).bind kCell := (rfl)
@[simp] theorem ev_kCell {ps : List PV} : kCell ps S = .ok (.c S.length) (S ++ [.lst ps]) := (rfl)
@[simp] theorem ev_noPart : dNoPart δ S = .ok none S := (rfl)
def kPart (a : DV) (S : AH) : Res (Option Int) := match a with
  | .p (.int i) => .ok (some i) S
  | _ => .bad
@[simp] theorem ev_part : dPart fa δ S = (fa δ S).bind kPart := (rfl)
@[simp] theorem ev_kPart {i : Int} : kPart (.p (.int i)) S = .ok (some i) S := (rfl)
def kSl3 (a : DV) (l h : Option Int) (S : AH) : Res DV := lift (slO a l h S)
def kSl2 (fh : Sig → AH → Res (Option Int)) (δ : Sig) (a : DV) (l : Option Int) (S : AH) : Res DV := (fh δ S).bind (kSl3 a l)
def kSl (fl fh : Sig → AH → Res (Option Int)) (δ : Sig) (a : DV) (S : AH) : Res DV := (fl δ S).bind (kSl2 fh δ a)
@[simp] theorem ev_sl {fl fh : Sig → AH → Res (Option Int)} : dSl fa fl fh δ S = (fa δ S).bind (kSl fl fh δ) := (rfl)
@[simp] theorem ev_kSl {fl fh : Sig → AH → Res (Option Int)} {a : DV} : kSl fl fh δ a S = (fl δ S).bind (kSl2 fh δ a) := (rfl)
@[simp] theorem ev_kSl2 {fh : Sig → AH → Res (Option Int)} {a : DV} {l : Option Int} : kSl2 fh δ a l S = (fh δ S).bind (kSl3 a l) := (rfl)
@[simp] theorem ev_kSl3 {a : DV} {l h : Option Int} : kSl3 a l h S = lift (slO a l h S) := (rfl)
def kAppF (o : OpF) (ds : List DV) (S : AH) : Res (List PV) := match o ds S with
  | some ps => .ok ps S
  | none => .bad
@[simp] theorem ev_appF {o : OpF} : dAppF o fs δ S = (fs δ S).bind (kAppF o) := (rfl)
def kIsi (T : String) (a : DV) (S : AH) : Res DV := match tyName a S with
  | some t => .ok (.p (.bl (isTy t T))) S
  | none => .bad
@[simp] theorem ev_isi {T : String} : dIsi T fa δ S = (fa δ S).bind (kIsi T) := (rfl)
def kIsiT (Ts : List String) (a : DV) (S : AH) : Res DV := match tyName a S with
  | some t => .ok (.p (.bl (Ts.any fun T => isTy t T))) S
  | none => .bad
@[simp] theorem ev_isiT {Ts : List String} : dIsiT Ts fa δ S = (fa δ S).bind (kIsiT Ts) := (rfl)
@[simp] theorem ev_call {F : List DV → AH → Res DV} : dCall F fs δ S = (fs δ S).bind F := (rfl)
def kMeth2 (o : OpM) (d : DV) (ds : List DV) (S : AH) : Res DV := lift (o d ds S)
def kMeth (o : OpM) (fs : Sig → AH → Res (List DV)) (δ : Sig) (d : DV) (S : AH) : Res DV := if isLst d S = true then (fs δ S).bind (kMeth2 o d) else .bad
@[simp] theorem ev_meth {o : OpM} : dMeth o fa fs δ S = (fa δ S).bind (kMeth o fs δ) := (rfl)
@[simp] theorem ev_kMeth2 {o : OpM} {d : DV} {ds : List DV} : kMeth2 o d ds S = lift (o d ds S) := (rfl)
theorem ev_kMeth {o : OpM} {d : DV} {xs : List PV} (h : litems d S = some xs) : kMeth o fs δ d S = (fs δ S).bind (kMeth2 o d) := by unfold kMeth isLst; rw [h]; rfl
theorem ev_kMethN {o : OpM} {d : DV} {ks : List Nat} (h : nitems d S = some ks) : kMeth o fs δ d S = (fs δ S).bind (kMeth2 o d) := by unfold kMeth isLst; rw [h, Option.isSome_some, Bool.or_true, if_pos rfl]
def kMeth0 (o : OpM) (d : DV) (S : AH) : Res DV := if isLst d S = true then lift (o d [] S) else .bad
@[simp] theorem ev_meth0 {o : OpM} : dMeth0 o fa δ S = (fa δ S).bind (kMeth0 o) := (rfl)
theorem ev_kMeth0 {o : OpM} {d : DV} {xs : List PV} (h : litems d S = some xs) : kMeth0 o d S = lift (o d [] S) := by unfold kMeth0 isLst; rw [h]; rfl
/- statements -/
def Out.seq (o : Out) (g : Sig → AH → Out) : Out := match o with
  | .nx δ S => g δ S
  | o => o
@[simp] theorem ev_seq : dSeq f g δ S = (f δ S).seq g := by
  unfold dSeq Out.seq
  rfl
@[simp] theorem seq_nx : (Out.nx δ S).seq g = g δ S := (rfl)
@[simp] theorem seq_rt {d : DV} : (Out.rt d S).seq g = .rt d S := (rfl)
@[simp] theorem seq_exc {c : Str} {p : List (Str × PV)} : (Out.exc c p δ S).seq g = .exc c p δ S := (rfl)
@[simp] theorem seq_bad : Out.bad.seq g = .bad := (rfl)
@[simp] theorem seq_bk : (Out.bk δ S).seq g = .bk δ S := (rfl)
@[simp] theorem seq_ct : (Out.ct δ S).seq g = .ct δ S := (rfl)
@[simp] theorem ev_pass : dPass δ S = .nx δ S := (rfl)
@[simp] theorem ev_break : dBreak δ S = .bk δ S := (rfl)
@[simp] theorem ev_cont : dCont δ S = .ct δ S := (rfl)
@[simp] theorem ev_never : dNever δ S = .bad := (rfl)
@[simp] theorem ev_raise {c : Str} : dRaise c δ S = .exc c [] δ S := (rfl)
def jDrop (δ : Sig) (_ : DV) (S : AH) : Out := .nx δ S
@[simp] theorem ev_drop : dDrop fa δ S = (fa δ S).out δ (jDrop δ) := (rfl)
@[simp] theorem ev_jDrop {d : DV} : jDrop δ d S = .nx δ S := (rfl)
def jRet (d : DV) (S : AH) : Out := .rt d S
@[simp] theorem ev_ret : dRet fa δ S = (fa δ S).out δ jRet := (rfl)
@[simp] theorem ev_jRet {d : DV} : jRet d S = .rt d S := (rfl)
@[simp] theorem ev_retN : dRetN δ S = .rt (.p .non) S := (rfl)
def jSet (i : Nat) (δ : Sig) (d : DV) (S : AH) : Out := .nx (δ.set i (some d)) S
@[simp] theorem ev_set {i : Nat} : dSet i fa δ S = (fa δ S).out δ (jSet i δ) := (rfl)
@[simp] theorem ev_jSet {i : Nat} {d : DV} : jSet i δ d S = .nx (δ.set i (some d)) S := (rfl)
@[simp] theorem ev_setF {i : Nat} : dSetF i fl δ S = (dVal fl δ S).out δ (jSet i δ) := (rfl)
@[simp] theorem ev_setC {i : Nat} : dSetC i fl δ S = (dCell fl δ S).out δ (jSet i δ) := (rfl)
def jAsg (q : Pat) (δ : Sig) (d : DV) (S : AH) : Out := match d with
  | .p x => match q.set (.p x) δ with
    | some δ' => .nx δ' S
    | none => .bad
  | .c _ => .bad
@[simp] theorem ev_asg {q : Pat} : dAsg q fa δ S = (fa δ S).out δ (jAsg q δ) := (rfl)
theorem ev_jAsg {q : Pat} {x : PV} {δ' : Sig} (h : q.set (.p x) δ = some δ') : jAsg q δ (.p x) S = .nx δ' S := by unfold jAsg; simp only [h]
def jIf (f g : Sig → AH → Out) (δ : Sig) (b : Bool) (S : AH) : Out := if b = true then f δ S else g δ S
@[simp] theorem ev_if : dIf ga f g δ S = (ga δ S).out δ (jIf f g δ) := (rfl)
@[simp] theorem ev_jIf_t : jIf f g δ true S = f δ S := (rfl)
@[simp] theorem ev_jIf_f : jIf f g δ false S = g δ S := (rfl)
def jPar (i j : Nat) (δ : Sig) (ds : List DV) (S : AH) : Out := match ds with
  | [d, e] => .nx ((δ.set i (some d)).set j (some e)) S
  | _ => .bad
@[simp] theorem ev_par {i j : Nat} : dPar i j fs δ S = (fs δ S).out δ (jPar i j δ) := (rfl)
@[simp] theorem ev_jPar {i j : Nat} {d e : DV} : jPar i j δ [d, e] S = .nx ((δ.set i (some d)).set j (some e)) S := (rfl)
def jSub3 (o v i : DV) (δ : Sig) (S : AH) : Out := match setIx o i v S with
  | some S' => .nx δ S'
  | none => .bad
def jSub2 (o v : DV) (δ : Sig) (i : DV) (S : AH) : Out := jSub3 o v i δ S
def jSub1 (fi : Sig → AH → Res DV) (v : DV) (δ : Sig) (o : DV) (S : AH) : Out := (fi δ S).out δ (jSub2 o v δ)
def jSub (fo fi : Sig → AH → Res DV) (δ : Sig) (v : DV) (S : AH) : Out := (fo δ S).out δ (jSub1 fi v δ)
@[simp] theorem ev_sub {fo fi : Sig → AH → Res DV} : dSub fa fo fi δ S = (fa δ S).out δ (jSub fo fi δ) := (rfl)
@[simp] theorem ev_jSub {fo fi : Sig → AH → Res DV} {v : DV} : jSub fo fi δ v S = (fo δ S).out δ (jSub1 fi v δ) := (rfl)
@[simp] theorem ev_jSub1 {fi : Sig → AH → Res DV} {v o : DV} : jSub1 fi v δ o S = (fi δ S).out δ (jSub2 o v δ) := (rfl)
@[simp] theorem ev_jSub2 {v o i : DV} : jSub2 o v δ i S = jSub3 o v i δ S := (rfl)
theorem ev_jSub3 {v o i : DV} {S' : AH} (h : setIx o i v S = some S') : jSub3 o v i δ S = .nx δ S' := by unfold jSub3; rw [h]
def jAug2 (i : Nat) (δ : Sig) (d : DV) (S : AH) : Out := .nx (δ.set i (some d)) S
def jAug (i : Nat) (o : Op2) (a : DV) (δ : Sig) (b : DV) (S : AH) : Out := (lift (o a b S)).out δ (jAug2 i δ)
def augOf (i : Nat) (o : Op2) (fa : Sig → AH → Res DV) (δ : Sig) (a : Option (Option DV)) (S : AH) : Out := match a with
  | some (some a) => (fa δ S).out δ (jAug i o a δ)
  | _ => .bad
@[simp] theorem ev_aug {i : Nat} {o : Op2} : dAug i o fa δ S = augOf i o fa δ δ[i]? S := by
  unfold dAug augOf
  rfl
@[simp] theorem ev_augOf {i : Nat} {o : Op2} {a : DV} : augOf i o fa δ (some (some a)) S = (fa δ S).out δ (jAug i o a δ) := (rfl)
@[simp] theorem ev_jAug {i : Nat} {o : Op2} {a b : DV} : jAug i o a δ b S = (lift (o a b S)).out δ (jAug2 i δ) := (rfl)
@[simp] theorem ev_jAug2 {i : Nat} {d : DV} : jAug2 i δ d S = .nx (δ.set i (some d)) S := (rfl)
end
/- values -/
@[simp] theorem addO_int {i j : Int} {S : AH} : addO (.p (.int i)) (.p (.int j)) S = some (.p (.int (i + j)), S) := (rfl)
@[simp] theorem subO_int {i j : Int} {S : AH} : subO (.p (.int i)) (.p (.int j)) S = some (.p (.int (i - j)), S) := (rfl)
@[simp] theorem negO_int {i : Int} {S : AH} : negO (.p (.int i)) S = some (.p (.int (-i)), S) := (rfl)
theorem mulO_int {i j : Int} {S : AH} (h : mulOk i j) : mulO (.p (.int i)) (.p (.int j)) S = some (.p (.int (i * j)), S) := by
  show (if mulOk i j then _ else _) = _
  rw [if_pos h]
theorem mulOk_r {i j : Int} (h : -(2 ^ 64) < j ∧ j < 2 ^ 64) : mulOk i j := .inl (.inr h)
theorem mulOk_l {i j : Int} (h : -(2 ^ 64) < i ∧ i < 2 ^ 64) : mulOk i j := .inl (.inl h)
theorem divO_int {i j : Int} {S : AH} (h : divOk j) : divO (.p (.int i)) (.p (.int j)) S = some (.p (.int (i / j)), S) := by
  show (if divOk j then _ else _) = _
  rw [if_pos h]
theorem divOk_of {j : Int} (h : 0 < j) (h2 : j < 2 ^ 64) : divOk j := by
  refine ⟨h, ?_⟩
  have : j.natAbs.log2 < 64 := (Nat.log2_lt (by omega)).mpr (by omega)
  omega
theorem modO_int {i j : Int} {S : AH} (h : 0 < j) : modO (.p (.int i)) (.p (.int j)) S = some (.p (.int (i % j)), S) := by
  show (if 0 < j then _ else _) = _
  rw [if_pos h]
theorem powO_int {i j : Int} {S : AH} (h : powOk i j) : powO (.p (.int i)) (.p (.int j)) S = some (.p (.int (i ^ j.toNat)), S) := by
  show (if powOk i j then _ else _) = _
  rw [if_pos h]
@[simp] theorem cmpO_int {p : Int → Int → Bool} {i j : Int} {S : AH} : cmpO p (.p (.int i)) (.p (.int j)) S = some (.p (.bl (p i j)), S) := (rfl)
theorem addO_tup {xs ys : List PV} {S : AH} (h : xs.length + ys.length ≤ 16777216) : addO (.p (.tup xs)) (.p (.tup ys)) S = some (.p (.tup (xs ++ ys)), S) := by
  show (if xs.length + ys.length ≤ sizeLine then _ else _) = _
  rw [if_pos (by rw [show sizeLine = 16777216 by decide]; exact h)]
@[simp] theorem intO_int {i : Int} {S : AH} : intO [.p (.int i)] S = some (.p (.int i), S) := (rfl)
@[simp] theorem intO_bl {b : Bool} {S : AH} : intO [.p (.bl b)] S = some (.p (.int (if b then 1 else 0)), S) := (rfl)
@[simp] theorem absO_int {i : Int} {S : AH} : absO [.p (.int i)] S = some (.p (.int (if i < 0 then -i else i)), S) := (rfl)
@[simp] theorem lenO_tup {xs : List PV} {S : AH} : lenO [.p (.tup xs)] S = some (.p (.int xs.length), S) := (rfl)
@[simp] theorem lenO_lst {xs : List PV} {S : AH} : lenO [.p (.lst xs)] S = some (.p (.int xs.length), S) := (rfl)
@[simp] theorem lenO_fro {xs : List PV} {S : AH} : lenO [.p (.fro xs)] S = some (.p (.int xs.length), S) := (rfl)
theorem lenO_c {n : Nat} {xs : List PV} {S : AH} (h : S[n]? = some (.lst xs)) : lenO [.c n] S = some (.p (.int xs.length), S) := by
  unfold lenO items
  simp only [h]
@[simp] theorem minO_int {i j : Int} {S : AH} : minO [.p (.int i), .p (.int j)] S = some (.p (.int (if j < i then j else i)), S) := (rfl)
@[simp] theorem maxO_int {i j : Int} {S : AH} : maxO [.p (.int i), .p (.int j)] S = some (.p (.int (if j > i then j else i)), S) := (rfl)
@[simp] theorem tupleO_tup {xs : List PV} {S : AH} : tupleO [.p (.tup xs)] S = some (.p (.tup xs), S) := (rfl)
@[simp] theorem tupleO_lst {xs : List PV} {S : AH} : tupleO [.p (.lst xs)] S = some (.p (.tup xs), S) := (rfl)
theorem tupleO_c {n : Nat} {xs : List PV} {S : AH} (h : S[n]? = some (.lst xs)) : tupleO [.c n] S = some (.p (.tup xs), S) := by
  unfold tupleO items
  simp only [h]
theorem sumO_tup {ns : List Int} {S : AH} : sumO [.p (.tup (ns.map PV.int))] S = some (.p (.int ns.sum), S) := by
  unfold sumO items
  simp only [intsOf_map]
theorem sumO_lst {ns : List Int} {S : AH} : sumO [.p (.lst (ns.map PV.int))] S = some (.p (.int ns.sum), S) := by
  unfold sumO items
  simp only [intsOf_map]
theorem allO_lst {ns : List Bool} {S : AH} : allO [.p (.lst (ns.map PV.bl))] S = some (.p (.bl (ns.all id)), S) := by
  unfold allO litems
  simp only [blsOf_map]
theorem anyO_lst {ns : List Bool} {S : AH} : anyO [.p (.lst (ns.map PV.bl))] S = some (.p (.bl (ns.any id)), S) := by
  unfold anyO litems
  simp only [blsOf_map]
@[simp] theorem pvs_nil : pvs [] = some [] := (rfl)
@[simp] theorem pvs_cons {x : PV} {r : List DV} : pvs (.p x :: r) = (pvs r).map fun t => x :: t := (rfl)
theorem kTup_ok {ds : List DV} {ps : List PV} {S : AH} (h : pvs ds = some ps) (z : ps.length ≤ 1000) : DL.kTup ds S = .ok (.p (.tup ps)) S := by
  unfold DL.kTup
  simp only [h]
  rw [if_pos z]
@[simp] theorem kTup1 {a : PV} {S : AH} : DL.kTup [.p a] S = .ok (.p (.tup [a])) S := (rfl)
@[simp] theorem kTup0 {S : AH} : DL.kTup [] S = .ok (.p (.tup [])) S := (rfl)
@[simp] theorem kTup2 {a b : PV} {S : AH} : DL.kTup [.p a, .p b] S = .ok (.p (.tup [a, b])) S := (rfl)
@[simp] theorem kTup3 {a b c : PV} {S : AH} : DL.kTup [.p a, .p b, .p c] S = .ok (.p (.tup [a, b, c])) S := (rfl)
@[simp] theorem kTup4 {a b c d : PV} {S : AH} : DL.kTup [.p a, .p b, .p c, .p d] S = .ok (.p (.tup [a, b, c, d])) S := (rfl)
@[simp] theorem kLst0 {S : AH} : kLst [] S = .ok [] S := (rfl)
@[simp] theorem kLst1 {a : PV} {S : AH} : kLst [.p a] S = .ok [a] S := (rfl)
@[simp] theorem kLst2 {a b : PV} {S : AH} : kLst [.p a, .p b] S = .ok [a, b] S := (rfl)
@[simp] theorem kLst3 {a b c : PV} {S : AH} : kLst [.p a, .p b, .p c] S = .ok [a, b, c] S := (rfl)
@[simp] theorem kLst4 {a b c d : PV} {S : AH} : kLst [.p a, .p b, .p c, .p d] S = .ok [a, b, c, d] S := (rfl)
theorem kLst_ok {ds : List DV} {ps : List PV} {S : AH} (h : pvs ds = some ps) (z : ps.length ≤ 1000) : kLst ds S = .ok ps S := by
  unfold kLst
  simp only [h]
  rw [if_pos z]
/- defs -/
@[simp] theorem dDef_ap {N n : Nat} {keep : Bool} {body : Sig → AH → Out} {ds : List DV} {S : AH} (h : ds.length = n) : dDef N n keep body ds S = gcK S keep (body (ds.map some ++ List.replicate (N - n) none) S) := by
  unfold dDef
  rw [if_pos h]
@[simp] theorem okC_nil {n : Nat} {S : AH} : okC n [] S = True := eq_true trivial
@[simp] theorem okC_cons {n : Nat} {a b : Cell} {S S' : AH} : okC n (a :: S) (b :: S') = (okc n a b ∧ okC n S S') := (rfl)
@[simp] theorem okc_lst {n : Nat} {a : Cell} {xs : List PV} : okc n a (.lst xs) = True := eq_true trivial
@[simp] theorem okc_same {n : Nat} {a : Cell} : okc n a a = True := eq_true (okc_self n a)
@[simp] theorem okC_same {n : Nat} {S : AH} : okC n S S = True := eq_true (okC_self n S)
@[simp] theorem okC_more {n : Nat} {S J : AH} : okC n S (S ++ J) = True := eq_true (okC_app n S J)
theorem gcK_ok {S : AH} {keep : Bool} {o : Out} (h : okC S.length S o.heap) : gcK S keep o = gcR S.length keep o := by
  unfold gcK
  rw [if_pos h]
@[simp] theorem gc_nx {S0 : AH} {keep : Bool} {δ : Sig} {S : AH} (h : okC S0.length S0 S) : gcK S0 keep (.nx δ S) = .ok (.p .non) (S.take S0.length) := by rw [gcK_ok h]; rfl
@[simp] theorem gc_rt {S0 : AH} {keep : Bool} {v : PV} {S : AH} (h : okC S0.length S0 S) : gcK S0 keep (.rt (.p v) S) = .ok (.p v) (S.take S0.length) := by rw [gcK_ok h]; rfl
@[simp] theorem gc_exc {S0 : AH} {keep : Bool} {δ : Sig} {S : AH} {c : Str} {p : List (Str × PV)} (h : okC S0.length S0 S) : gcK S0 keep (.exc c p δ S) = .exc c p (S.take S0.length) := by rw [gcK_ok h]; rfl
theorem gc_cell {S0 : AH} {i : Nat} {S : AH} {xs : List PV} (ok : okC S0.length S0 S) (h : S0.length ≤ i) (e : S[i]? = some (.lst xs)) : gcK S0 true (.rt (.c i) S) = .ok (.c S0.length) (S.take S0.length ++ [.lst xs]) := by
  rw [gcK_ok ok]
  unfold gcR
  simp only [e]
  rw [if_neg (by omega)]
  rfl
theorem gc_lst {S0 : AH} {i : Nat} {S : AH} {xs : List PV} (ok : okC S0.length S0 S) (h : S0.length ≤ i) (e : S[i]? = some (.lst xs)) : gcK S0 false (.rt (.c i) S) = .ok (.p (.lst xs)) (S.take S0.length) := by
  rw [gcK_ok ok]
  unfold gcR
  simp only [e]
  rw [if_neg (by omega)]
  rfl
theorem gc_nst {S0 : AH} {i : Nat} {S : AH} {ks : List Nat} {ps : List PV} {keep : Bool} (ok : okC S0.length S0 S) (h : S0.length ≤ i) (e : S[i]? = some (.nst ks)) (f : frzCs S0.length S ks = some ps) : gcK S0 keep (.rt (.c i) S) = .ok (.p (.lst ps)) (S.take S0.length) := by
  rw [gcK_ok ok]
  unfold gcR
  simp only [e, f]
  rw [if_neg (by omega)]
theorem gc_tup {S0 : AH} {S : AH} {ds : List DV} {ps : List PV} {keep : Bool} (ok : okC S0.length S0 S) (f : frzDs S0.length S ds = some ps) : gcK S0 keep (.rtT ds S) = .ok (.p (.tup ps)) (S.take S0.length) := by
  rw [gcK_ok ok]
  unfold gcR
  simp only [f]
def jRetT (ds : List DV) (S : AH) : Out := if ds.length ≤ 1000 then .rtT ds S else .bad
@[simp] theorem ev_retT {fs : Sig → AH → Res (List DV)} {δ : Sig} {S : AH} : dRetT fs δ S = (fs δ S).out δ jRetT := (rfl)
@[simp] theorem ev_jRetT1 {a : DV} {S : AH} : jRetT [a] S = .rtT [a] S := (rfl)
@[simp] theorem ev_jRetT2 {a b : DV} {S : AH} : jRetT [a, b] S = .rtT [a, b] S := (rfl)
@[simp] theorem ev_jRetT3 {a b c : DV} {S : AH} : jRetT [a, b, c] S = .rtT [a, b, c] S := (rfl)
@[simp] theorem seq_rtT {ds : List DV} {S : AH} {g : Sig → AH → Out} : (Out.rtT ds S).seq g = .rtT ds S := (rfl)
/- loops -/
section
variable {δ : Sig} {S : AH} {fb : Sig → AH → Out} {q : Pat} {fi : Sig → AH → Res Its'} {fc : Sig → AH → Res Bool} {fe : Sig → AH → Res DV} {fs : Sig → AH → Res (List DV)} {fa : Sig → AH → Res DV}
abbrev ckT : AH → Prop := fun _ => True
noncomputable def jFor (q : Pat) (fb : Sig → AH → Out) (δ : Sig) (x : Its') (S : AH) : Out := forGo x.2 q fb x.1 δ S
@[simp] theorem ev_for : dFor fi q fb δ S = (fi δ S).out δ (jFor q fb δ) := (rfl)
@[simp] theorem ev_jFor {xs : List DV} {ck : AH → Prop} : jFor q fb δ (xs, ck) S = forGo ck q fb xs δ S := (rfl)
@[simp] theorem for_nil : forGo ckT q fb [] δ S = .nx δ S := by
  unfold forGo
  rw [if_pos trivial]
def afterTurn (o : Out) (k : Sig → AH → Out) : Out := match o with
  | .nx δ S => k δ S
  | .ct δ S => k δ S
  | .bk δ S => .nx δ S
  | o => o
@[simp] theorem after_nx {k : Sig → AH → Out} : afterTurn (.nx δ S) k = k δ S := (rfl)
@[simp] theorem after_ct {k : Sig → AH → Out} : afterTurn (.ct δ S) k = k δ S := (rfl)
@[simp] theorem after_bk {k : Sig → AH → Out} : afterTurn (.bk δ S) k = .nx δ S := (rfl)
@[simp] theorem after_rt {k : Sig → AH → Out} {d : DV} : afterTurn (.rt d S) k = .rt d S := (rfl)
@[simp] theorem after_exc {k : Sig → AH → Out} {c : Str} {p : List (Str × PV)} : afterTurn (.exc c p δ S) k = .exc c p δ S := (rfl)
@[simp] theorem after_rtT {k : Sig → AH → Out} {ds : List DV} : afterTurn (.rtT ds S) k = .rtT ds S := (rfl)
@[simp] theorem after_bad {k : Sig → AH → Out} : afterTurn .bad k = .bad := (rfl)
theorem for_cons {x : DV} {xs : List DV} {δ1 : Sig} (h : q.set x δ = some δ1) : forGo ckT q fb (x :: xs) δ S = afterTurn (fb δ1 S) (forGo ckT q fb xs) := by
  conv => lhs; unfold forGo
  rw [if_pos trivial]
  simp only [h]
  unfold afterTurn
  rfl
/-- the name of a loop -/
theorem for_nm {i : Nat} {x : DV} {xs : List DV} : forGo ckT (.nm i) fb (x :: xs) δ S = afterTurn (fb (δ.set i (some x)) S) (forGo ckT (.nm i) fb xs) := for_cons rfl
def kSeqI (d : DV) (S : AH) : Res Its' := match d with
  | .p (.tup xs) => .ok (dit xs, ckT) S
  | .p (.lst xs) => .ok (dit xs, ckT) S
  | .p (.fro xs) => .ok (dit xs, ckT) S
  | .p (.str z) => .ok (signs z, ckT) S
  | .c n => match S[n]? with
    | some (.lst xs) => .ok (dit xs, fun S' => S'[n]? = some (.lst xs)) S
    | some (.nst ks) => .ok (dic ks, fun S' => S'[n]? = some (.nst ks)) S
    | _ => .bad
  | _ => .bad
@[simp] theorem ev_seqI : dSeqI fa δ S = (fa δ S).bind kSeqI := (rfl)
@[simp] theorem ev_kSeqI_tup {xs : List PV} : kSeqI (.p (.tup xs)) S = .ok (dit xs, ckT) S := (rfl)
@[simp] theorem ev_kSeqI_lst {xs : List PV} : kSeqI (.p (.lst xs)) S = .ok (dit xs, ckT) S := (rfl)
@[simp] theorem ev_kSeqI_fro {xs : List PV} : kSeqI (.p (.fro xs)) S = .ok (dit xs, ckT) S := (rfl)
theorem ev_kSeqI_c {n : Nat} {xs : List PV} (h : S[n]? = some (.lst xs)) : kSeqI (.c n) S = .ok (dit xs, fun S' => S'[n]? = some (.lst xs)) S := by
  unfold kSeqI
  simp only [h]
theorem ev_kSeqI_n {n : Nat} {ks : List Nat} (h : S[n]? = some (.nst ks)) : kSeqI (.c n) S = .ok (dic ks, fun S' => S'[n]? = some (.nst ks)) S := by
  unfold kSeqI
  simp only [h]
def kRng1 (ds : List DV) (S : AH) : Res Its' := match ds with
  | [.p (.int j)] => if small62 j then .ok (rangeI 0 j.toNat, fun _ => True) S else .bad
  | _ => .bad
@[simp] theorem ev_rng1 : dRng1 fs δ S = (fs δ S).bind kRng1 := (rfl)
theorem kRng1_ok {j : Int} (h : small62 j) : kRng1 [.p (.int j)] S = .ok (rangeI 0 j.toNat, ckT) S := by
  show (if small62 j then _ else _) = _
  rw [if_pos h]
def kRng2 (ds : List DV) (S : AH) : Res Its' := match ds with
  | [.p (.int i), .p (.int j)] => if small62 i ∧ small62 j then .ok (rangeI i (j - i).toNat, fun _ => True) S else .bad
  | _ => .bad
@[simp] theorem ev_rng2 : dRng2 fs δ S = (fs δ S).bind kRng2 := (rfl)
theorem kRng2_ok {i j : Int} (h : small62 i) (h2 : small62 j) : kRng2 [.p (.int i), .p (.int j)] S = .ok (rangeI i (j - i).toNat, ckT) S := by
  show (if small62 i ∧ small62 j then _ else _) = _
  rw [if_pos ⟨h, h2⟩]
@[simp] theorem range0 {lo : Int} : rangeI lo 0 = [] := (rfl)
theorem range_succ {lo : Int} {n : Nat} : rangeI lo (n + 1) = .p (.int lo) :: rangeI (lo + 1) n := by
  unfold rangeI
  rw [List.range_succ_eq_map, List.map_cons, List.map_map]
  congr 1
  · simp
  · refine List.map_congr_left fun i _ => ?_
    show DV.p (PV.int (lo + ((i + 1 : Nat) : Int))) = DV.p (PV.int (lo + 1 + (i : Int)))
    congr 2
    omega
noncomputable def kLc (q : Pat) (fc : Sig → AH → Res Bool) (fe : Sig → AH → Res DV) (vs : List Nat) (δ : Sig) (x : Its') (S : AH) : Res (List PV) := if x.1.length ≤ 16777216 then lcGo x.2 q fc fe (wipeD δ vs) x.1 S else .bad
@[simp] theorem ev_lc {vs : List Nat} : dLc fi q fc fe vs δ S = (fi δ S).bind (kLc q fc fe vs δ) := (rfl)
theorem ev_kLc {vs : List Nat} {xs : List DV} {ck : AH → Prop} (h : xs.length ≤ 16777216) : kLc q fc fe vs δ (xs, ck) S = lcGo ck q fc fe (wipeD δ vs) xs S := by
  unfold kLc
  rw [if_pos h]
@[simp] theorem lc_nil {ck : AH → Prop} (h : ck S) : lcGo ck q fc fe δ [] S = .ok [] S := by
  unfold lcGo
  rw [if_pos h]
def kLcC (y : PV) (ys : List PV) (S : AH) : Res (List PV) := .ok (y :: ys) S
@[simp] theorem ev_kLcC {y : PV} {ys : List PV} : kLcC y ys S = .ok (y :: ys) S := (rfl)
/-- an item that is taken -/
theorem lc_take {ck : AH → Prop} {x : DV} {y : PV} {xs : List DV} {δ2 : Sig} {S1 S2 : AH} (h : ck S) (hq : q.set x δ = some δ2) (hc : fc δ2 S = .ok true S1) (he : fe δ2 S1 = .ok (.p y) S2) :
    lcGo ck q fc fe δ (x :: xs) S = (lcGo ck q fc fe δ xs S2).bind (kLcC y) := by
  rw [show lcGo ck q fc fe δ (x :: xs) S = _ from by unfold lcGo; rfl, if_pos h]
  simp only [hq, hc, nox_ok, Res.bind_ok, if_true, he]
  rfl
theorem lc_skip {ck : AH → Prop} {x : DV} {xs : List DV} {δ2 : Sig} {S1 : AH} (h : ck S) (hq : q.set x δ = some δ2) (hc : fc δ2 S = .ok false S1) :
    lcGo ck q fc fe δ (x :: xs) S = lcGo ck q fc fe δ xs S1 := by
  conv => lhs; unfold lcGo
  rw [if_pos h]
  simp only [hq, hc, nox_ok, Res.bind_ok, Bool.false_eq_true, if_false]
/-- a comprehension that touches nothing -/
theorem lc_map {ck : AH → Prop} {xs : List PV} (h : ck S) (g : PV → PV) (hq : ∀ x ∈ xs, ∃ δ2, q.set (.p x) δ = some δ2 ∧ fe δ2 S = .ok (.p (g x)) S) : lcGo ck q dYes fe δ (dit xs) S = .ok (xs.map g) S := by
  induction xs with
  | nil => exact lc_nil h
  | cons x xs ih =>
    obtain ⟨δ2, h1, h2⟩ := hq x List.mem_cons_self
    rw [dit_cons, lc_take h h1 rfl h2, ih fun y hy => hq y (List.mem_cons_of_mem _ hy)]
    rfl
theorem lc_filter {ck : AH → Prop} {xs : List PV} (h : ck S) (p : PV → Bool) (g : PV → PV) (hq : ∀ x ∈ xs, ∃ δ2, q.set (.p x) δ = some δ2 ∧ fc δ2 S = .ok (p x) S ∧ (p x = true → fe δ2 S = .ok (.p (g x)) S)) : lcGo ck q fc fe δ (dit xs) S = .ok ((xs.filter p).map g) S := by
  induction xs with
  | nil => exact lc_nil h
  | cons x xs ih =>
    obtain ⟨δ2, h1, h2, h3⟩ := hq x List.mem_cons_self
    have ih' := ih fun y hy => hq y (List.mem_cons_of_mem _ hy)
    cases e : p x with
    | true =>
      rw [e] at h2
      rw [dit_cons, lc_take h h1 h2 (h3 e), ih', List.filter_cons_of_pos e]
      rfl
    | false =>
      rw [e] at h2
      rw [dit_cons, lc_skip h h1 h2, ih', List.filter_cons_of_neg (by rw [e]; exact Bool.false_ne_true)]
end
end
end DL
namespace DL
noncomputable section
open PySem L2
/-- data of a depth -/
def PV.fit : Nat → PV → Prop
  | _, .non => True
  | _, .bl _ => True
  | _, .int _ => True
  | _, .str x => (PyData.str x).canLay0 = true
  | _, .glob _ => False
  | 0, _ => False
  | n + 1, .tup xs => ∀ x ∈ xs, PV.fit n x
  | n + 1, .lst xs => ∀ x ∈ xs, PV.fit n x
  | n + 1, .fro xs => ∀ x ∈ xs, PV.fit n x
theorem fits_datas {n : Nat} (ih : ∀ x : PV, x.fit n → ∃ d, x.data = some d ∧ d.canLay0 = true ∧ d.depth ≤ n) : ∀ xs : List PV, (∀ x ∈ xs, x.fit n) → ∃ ds, PV.datas xs = some ds ∧ PyData.canLayAll0 ds = true ∧ PyData.depthAll ds ≤ n
  | [], _ => ⟨[], rfl, by simp [PyData.canLayAll0], by simp [PyData.depthAll]⟩
  | x :: xs, h => by
    obtain ⟨d, h1, h2, h3⟩ := ih x (h x List.mem_cons_self)
    obtain ⟨ds, k1, k2, k3⟩ := fits_datas ih xs fun y hy => h y (List.mem_cons_of_mem _ hy)
    refine ⟨d :: ds, by simp [PV.datas, h1, k1], by simp [PyData.canLayAll0, h2, k2], ?_⟩
    simp only [PyData.depthAll]
    omega
theorem fit_data : ∀ (n : Nat) (x : PV), x.fit n → ∃ d, x.data = some d ∧ d.canLay0 = true ∧ d.depth ≤ n
  | n, .non, _ => ⟨.none, by simp [PV.data], by simp [PyData.canLay0], by simp [PyData.depth]⟩
  | n, .bl b, _ => ⟨.bool b, by simp [PV.data], by simp [PyData.canLay0], by simp [PyData.depth]⟩
  | n, .int i, _ => ⟨.int i, by simp [PV.data], by simp [PyData.canLay0], by simp [PyData.depth]⟩
  | 0, .str x, h => ⟨.str x, by simp [PV.data], h, by simp [PyData.depth]⟩
  | n + 1, .str x, h => ⟨.str x, by simp [PV.data], h, by simp [PyData.depth]⟩
  | 0, .glob _, h => h.elim
  | n + 1, .glob _, h => h.elim
  | 0, .tup _, h => h.elim
  | 0, .lst _, h => h.elim
  | 0, .fro _, h => h.elim
  | n + 1, .tup xs, h => by
    obtain ⟨ds, k1, k2, k3⟩ := fits_datas (fit_data n) xs h
    exact ⟨.tuple ds, by simp [PV.data, k1], by simp [PyData.canLay0, k2], by simp only [PyData.depth]; omega⟩
  | n + 1, .lst xs, h => by
    obtain ⟨ds, k1, k2, k3⟩ := fits_datas (fit_data n) xs h
    exact ⟨.list ds, by simp [PV.data, k1], by simp [PyData.canLay0, k2], by simp only [PyData.depth]; omega⟩
  | n + 1, .fro xs, h => by
    obtain ⟨ds, k1, k2, k3⟩ := fits_datas (fit_data n) xs h
    exact ⟨.list ds, by simp [PV.data, k1], by simp [PyData.canLay0, k2], by simp only [PyData.depth]; omega⟩
theorem fit_shaped {n : Nat} {x : PV} (h : x.fit n) (hn : n ≤ 64) : ∃ d, x.data = some d ∧ SeqAt.shaped d = true := by
  obtain ⟨d, h1, h2, h3⟩ := fit_data n x h
  refine ⟨d, h1, ?_⟩
  unfold SeqAt.shaped
  rw [h2, Bool.true_and]
  exact decide_eq_true (by omega)
theorem sh_eqv {d : PyData} (h : SeqAt.shaped d = true) : PyData.eqv d d = true := by
  unfold SeqAt.shaped at h
  exact PySem.SeqAt.eqv_refl d (Bool.and_eq_true_iff.mp h).1
theorem eqO_self {n : Nat} {x : PV} {S : AH} (h : x.fit n) (hn : n ≤ 64) : eqO (.p x) (.p x) S = some (.p (.bl true), S) := by
  obtain ⟨d, h1, h2⟩ := fit_shaped h hn
  unfold eqO dataOf
  simp only [h1, eqDat, h2, and_self, if_true, Option.map_some, sh_eqv h2]
theorem neO_self {n : Nat} {x : PV} {S : AH} (h : x.fit n) (hn : n ≤ 64) : neO (.p x) (.p x) S = some (.p (.bl false), S) := by
  obtain ⟨d, h1, h2⟩ := fit_shaped h hn
  unfold neO dataOf
  simp only [h1, eqDat, h2, and_self, if_true, Option.map_some, sh_eqv h2, Bool.not_true]
theorem eqv_int (i j : Int) : PyData.eqv (.int i) (.int j) = decide (i = j) := by
  simp only [PyData.eqv]
  cases h : decide (i = j) with
  | true => simpa using h
  | false => simpa using h
@[simp] theorem eqO_int {i j : Int} {S : AH} : eqO (.p (.int i)) (.p (.int j)) S = some (.p (.bl (decide (i = j))), S) := by
  have h1 : SeqAt.shaped (.int i) = true := rfl
  have h2 : SeqAt.shaped (.int j) = true := rfl
  unfold eqO dataOf
  simp only [PV.data, eqDat, h1, h2, and_self, if_true, Option.map_some, eqv_int]
@[simp] theorem neO_int {i j : Int} {S : AH} : neO (.p (.int i)) (.p (.int j)) S = some (.p (.bl (!decide (i = j))), S) := by
  have h1 : SeqAt.shaped (.int i) = true := rfl
  have h2 : SeqAt.shaped (.int j) = true := rfl
  unfold neO dataOf
  simp only [PV.data, eqDat, h1, h2, and_self, if_true, Option.map_some, eqv_int]
/-- a tuple of numbers -/
abbrev tupI (ns : List Int) : PV := .tup (ns.map PV.int)
abbrev lstI (ns : List Int) : PV := .lst (ns.map PV.int)
theorem fit_ints (ns : List Int) {n : Nat} : ∀ x ∈ ns.map PV.int, x.fit n := fun x h => by
  obtain ⟨i, _, rfl⟩ := List.mem_map.mp h
  cases n <;> trivial
theorem fit_tupI (ns : List Int) {n : Nat} : (tupI ns).fit (n + 1) := fit_ints ns
theorem fit_lstI (ns : List Int) {n : Nat} : (lstI ns).fit (n + 1) := fit_ints ns
@[simp] theorem isO_bl {a b : Bool} {S : AH} : isO (.p (.bl a)) (.p (.bl b)) S = some (.p (.bl (decide (a = b))), S) := rfl
@[simp] theorem isNotO_bl {a b : Bool} {S : AH} : isNotO (.p (.bl a)) (.p (.bl b)) S = some (.p (.bl (!decide (a = b))), S) := rfl
@[simp] theorem isO_non {S : AH} : isO (.p .non) (.p .non) S = some (.p (.bl true), S) := rfl
@[simp] theorem isNotO_non {S : AH} : isNotO (.p .non) (.p .non) S = some (.p (.bl false), S) := rfl
@[simp] theorem isO_tup {xs : List PV} {S : AH} : isO (.p (.tup xs)) (.p .non) S = some (.p (.bl false), S) := rfl
@[simp] theorem isNotO_tup {xs : List PV} {S : AH} : isNotO (.p (.tup xs)) (.p .non) S = some (.p (.bl true), S) := rfl
@[simp] theorem isO_int {i : Int} {S : AH} : isO (.p (.int i)) (.p .non) S = some (.p (.bl false), S) := rfl
@[simp] theorem isNotO_int {i : Int} {S : AH} : isNotO (.p (.int i)) (.p .non) S = some (.p (.bl true), S) := rfl
/- kinds -/
@[simp] theorem kIsi_int {i : Int} {T : String} {S : AH} : kIsi T (.p (.int i)) S = .ok (.p (.bl (isTy "int" T))) S := rfl
@[simp] theorem kIsi_bl {b : Bool} {T : String} {S : AH} : kIsi T (.p (.bl b)) S = .ok (.p (.bl (isTy "bool" T))) S := rfl
@[simp] theorem kIsi_str {x : Str} {T : String} {S : AH} : kIsi T (.p (.str x)) S = .ok (.p (.bl (isTy "str" T))) S := rfl
@[simp] theorem kIsi_tup {xs : List PV} {T : String} {S : AH} : kIsi T (.p (.tup xs)) S = .ok (.p (.bl (isTy "tuple" T))) S := rfl
@[simp] theorem kIsi_lst {xs : List PV} {T : String} {S : AH} : kIsi T (.p (.lst xs)) S = .ok (.p (.bl (isTy "list" T))) S := rfl
@[simp] theorem kIsi_non {T : String} {S : AH} : kIsi T (.p .non) S = .ok (.p (.bl (isTy "NoneType" T))) S := rfl
@[simp] theorem kIsiT_int {i : Int} {T : List String} {S : AH} : kIsiT T (.p (.int i)) S = .ok (.p (.bl (T.any fun U => isTy "int" U))) S := rfl
@[simp] theorem kIsiT_bl {b : Bool} {T : List String} {S : AH} : kIsiT T (.p (.bl b)) S = .ok (.p (.bl (T.any fun U => isTy "bool" U))) S := rfl
@[simp] theorem kIsiT_str {x : Str} {T : List String} {S : AH} : kIsiT T (.p (.str x)) S = .ok (.p (.bl (T.any fun U => isTy "str" U))) S := rfl
@[simp] theorem kIsiT_tup {xs : List PV} {T : List String} {S : AH} : kIsiT T (.p (.tup xs)) S = .ok (.p (.bl (T.any fun U => isTy "tuple" U))) S := rfl
@[simp] theorem kIsiT_lst {xs : List PV} {T : List String} {S : AH} : kIsiT T (.p (.lst xs)) S = .ok (.p (.bl (T.any fun U => isTy "list" U))) S := rfl
@[simp] theorem kIsiT_non {T : List String} {S : AH} : kIsiT T (.p .non) S = .ok (.p (.bl (T.any fun U => isTy "NoneType" U))) S := rfl
@[simp] theorem ty_ii : isTy "int" "int" = true := by decide
@[simp] theorem ty_ib : isTy "int" "bool" = false := by decide
@[simp] theorem ty_is : isTy "int" "str" = false := by decide
@[simp] theorem ty_it : isTy "int" "tuple" = false := by decide
@[simp] theorem ty_il : isTy "int" "list" = false := by decide
@[simp] theorem ty_bi : isTy "bool" "int" = true := by decide
@[simp] theorem ty_bb : isTy "bool" "bool" = true := by decide
@[simp] theorem ty_bs : isTy "bool" "str" = false := by decide
@[simp] theorem ty_bt : isTy "bool" "tuple" = false := by decide
@[simp] theorem ty_bl : isTy "bool" "list" = false := by decide
@[simp] theorem ty_si : isTy "str" "int" = false := by decide
@[simp] theorem ty_sb : isTy "str" "bool" = false := by decide
@[simp] theorem ty_ss : isTy "str" "str" = true := by decide
@[simp] theorem ty_st : isTy "str" "tuple" = false := by decide
@[simp] theorem ty_sl : isTy "str" "list" = false := by decide
@[simp] theorem ty_ti : isTy "tuple" "int" = false := by decide
@[simp] theorem ty_tb : isTy "tuple" "bool" = false := by decide
@[simp] theorem ty_ts : isTy "tuple" "str" = false := by decide
@[simp] theorem ty_tt : isTy "tuple" "tuple" = true := by decide
@[simp] theorem ty_tl : isTy "tuple" "list" = false := by decide
@[simp] theorem ty_li : isTy "list" "int" = false := by decide
@[simp] theorem ty_lb : isTy "list" "bool" = false := by decide
@[simp] theorem ty_ls : isTy "list" "str" = false := by decide
@[simp] theorem ty_lt : isTy "list" "tuple" = false := by decide
@[simp] theorem ty_ll : isTy "list" "list" = true := by decide
@[simp] theorem ty_ni : isTy "NoneType" "int" = false := by decide
@[simp] theorem ty_nb : isTy "NoneType" "bool" = false := by decide
@[simp] theorem ty_ns : isTy "NoneType" "str" = false := by decide
@[simp] theorem ty_nt : isTy "NoneType" "tuple" = false := by decide
@[simp] theorem ty_nl : isTy "NoneType" "list" = false := by decide
/- items -/
theorem ixO_c {n : Nat} {i : Int} {xs : List PV} {x : PV} {S : AH} (h : S[n]? = some (.lst xs)) (e : atI xs i = some x) : ixO (.c n) (.p (.int i)) S = some (.p x, S) := by
  unfold ixO items
  simp only [h, e, Option.map_some]
theorem ixO_tup {i : Int} {xs : List PV} {x : PV} {S : AH} (e : atI xs i = some x) : ixO (.p (.tup xs)) (.p (.int i)) S = some (.p x, S) := by
  show (match items (.p (.tup xs)) S with | some xs => (atI xs i).map fun x => (DV.p x, S) | none => none) = _
  simp only [items, e, Option.map_some]
theorem ixO_lst {i : Int} {xs : List PV} {x : PV} {S : AH} (e : atI xs i = some x) : ixO (.p (.lst xs)) (.p (.int i)) S = some (.p x, S) := by
  show (match items (.p (.lst xs)) S with | some xs => (atI xs i).map fun x => (DV.p x, S) | none => none) = _
  simp only [items, e, Option.map_some]
theorem atI_map {α β : Type} (f : α → β) {xs : List α} {i : Int} {x : α} (h : atI xs i = some x) : atI (xs.map f) i = some (f x) := by
  unfold atI at h ⊢
  rw [List.length_map]
  cases e : ixN xs.length i with
  | none => rw [e] at h; cases h
  | some j =>
    rw [e] at h
    simp only [Option.bind_some] at h ⊢
    rw [List.getElem?_map, h]; rfl
/-- an index from 0 on -/
theorem atI_at {α : Type} {xs : List α} {i : Int} {x : α} (h0 : 0 ≤ i) (h : xs[i.toNat]? = some x) : atI xs i = some x := by
  have := atI_nat h
  rwa [Int.toNat_of_nonneg h0] at this
theorem atI_lt {xs : List Int} {i : Int} (h0 : 0 ≤ i) (h : i < xs.length) : ∃ x, atI xs i = some x ∧ xs[i.toNat]? = some x ∧ x ∈ xs := by
  have hi : i.toNat < xs.length := by omega
  exact ⟨xs[i.toNat], atI_at h0 (List.getElem?_eq_getElem hi), List.getElem?_eq_getElem hi, List.getElem_mem hi⟩
/- cells at the end -/
@[simp] theorem last_get {S : AH} {c : Cell} : (S ++ [c])[S.length]? = some c := by simp
@[simp] theorem last_set {S : AH} {c d : Cell} : (S ++ [c]).set S.length d = S ++ [d] := by
  rw [List.set_append_right _ _ (Nat.le_refl _), Nat.sub_self]; rfl
@[simp] theorem last_take {S : AH} {c : Cell} : (S ++ [c]).take S.length = S := by simp
theorem append_c {n : Nat} {xs : List PV} {x : PV} {S : AH} (h : S[n]? = some (.lst xs)) (z : xs.length < 16777216) : appendM (.c n) [.p x] S = some (.p .non, S.set n (.lst (xs ++ [x]))) := by
  unfold appendM
  simp only [h]
  rw [if_pos z]
theorem litems_c {n : Nat} {xs : List PV} {S : AH} (h : S[n]? = some (.lst xs)) : litems (.c n) S = some xs := by
  unfold litems
  simp only [h]
@[simp] theorem litems_lst {xs : List PV} {S : AH} : litems (.p (.lst xs)) S = some xs := rfl
/-- append to the last cell -/
theorem ev_append {fs : Sig → AH → Res (List DV)} {δ : Sig} {S S' : AH} {n : Nat} {xs : List PV} {x : PV} (h : S[n]? = some (.lst xs)) (e : fs δ S = .ok [.p x] S') (h' : S'[n]? = some (.lst xs)) (z : xs.length < 16777216) :
    kMeth appendM fs δ (.c n) S = .ok (.p .non) (S'.set n (.lst (xs ++ [x]))) := by
  rw [ev_kMeth (litems_c h), e]
  simp only [Res.bind_ok, ev_kMeth2]
  rw [append_c h' z, lift_some]
theorem cutL_map {α β : Type} (f : α → β) (xs : List α) (lo hi : Option Int) : cutL (xs.map f) lo hi = (cutL xs lo hi).map f := by
  unfold cutL
  rw [List.length_map, List.map_take, List.map_drop]
end
end DL
namespace DL
noncomputable section
open PySem L2
section
variable {δ : Sig} {S : AH} {fb : Sig → AH → Out} {q : Pat} {fc : Sig → AH → Res Bool} {fe : Sig → AH → Res DV} {fs : Sig → AH → Res (List DV)}
/-- an invariant of a for loop -/
theorem for_rule (P : List DV → Sig → AH → Prop) {xs : List DV} (h0 : P xs δ S) (step : ∀ x xs δ S, P (x :: xs) δ S → ∃ δ1, q.set x δ = some δ1 ∧ ∃ δ2 S2, fb δ1 S = .nx δ2 S2 ∧ P xs δ2 S2) : ∃ δ' S', forGo ckT q fb xs δ S = .nx δ' S' ∧ P [] δ' S' := by
  induction xs generalizing δ S with
  | nil => exact ⟨δ, S, for_nil, h0⟩
  | cons x xs ih =>
    obtain ⟨δ1, h1, δ2, S2, h2, h3⟩ := step x xs δ S h0
    obtain ⟨δ', S', h4, h5⟩ := ih h3
    exact ⟨δ', S', by rw [for_cons h1, h2, after_nx, h4], h5⟩
theorem rangeI_eq (lo : Int) (n : Nat) : rangeI lo n = (List.range n).map fun (i : Nat) => DV.p (.int (lo + (i : Int))) := rfl
@[simp] theorem rangeI_len (lo : Int) (n : Nat) : (rangeI lo n).length = n := by rw [rangeI_eq]; simp
theorem lc_rmap {i : Nat} {lo : Int} {n : Nat} (g : Nat → PV) (h : ∀ k < n, fe (δ.set i (some (.p (.int (lo + (k : Int)))))) S = .ok (.p (g k)) S) : lcGo ckT (.nm i) dYes fe δ (rangeI lo n) S = .ok ((List.range n).map g) S := by
  induction n generalizing lo g with
  | zero => exact lc_nil trivial
  | succ n ih =>
    rw [range_succ, lc_take trivial rfl rfl (h 0 (by omega) |> fun k => by simpa using k)]
    rw [ih (fun k => g (k + 1)) fun k hk => by
      have := h (k + 1) (by omega)
      rwa [show lo + ((k + 1 : Nat) : Int) = lo + 1 + (k : Int) by omega] at this]
    rw [Res.bind_ok, ev_kLcC, List.range_succ_eq_map, List.map_cons, List.map_map]
    rfl
theorem lc_rfilter {i : Nat} {lo : Int} {n : Nat} (p : Nat → Bool) (g : Nat → PV) (hc : ∀ k < n, fc (δ.set i (some (.p (.int (lo + (k : Int)))))) S = .ok (p k) S) (h : ∀ k < n, p k = true → fe (δ.set i (some (.p (.int (lo + (k : Int)))))) S = .ok (.p (g k)) S) : lcGo ckT (.nm i) fc fe δ (rangeI lo n) S = .ok (((List.range n).filter p).map g) S := by
  induction n generalizing lo g p with
  | zero => exact lc_nil trivial
  | succ n ih =>
    have ih' := ih (lo := lo + 1) (fun k => p (k + 1)) (fun k => g (k + 1)) (fun k hk => by
      have := hc (k + 1) (by omega)
      rwa [show lo + ((k + 1 : Nat) : Int) = lo + 1 + (k : Int) by omega] at this) (fun k hk e => by
      have := h (k + 1) (by omega) e
      rwa [show lo + ((k + 1 : Nat) : Int) = lo + 1 + (k : Int) by omega] at this)
    have c0 : fc (δ.set i (some (.p (.int lo)))) S = .ok (p 0) S := by simpa using hc 0 (by omega)
    have e2 : ((List.range (n + 1)).filter p).map g = (if p 0 = true then [g 0] else []) ++ ((List.range n).filter fun k => p (k + 1)).map (fun k => g (k + 1)) := by
      rw [List.range_succ_eq_map, List.filter_cons]
      have : ((List.range n).map Nat.succ).filter p = ((List.range n).filter fun k => p (k + 1)).map Nat.succ := by
        rw [List.filter_map]; rfl
      split <;> rename_i hp
      · rw [this]
        simp [List.map_map, Function.comp_def]
      · rw [this]
        simp [List.map_map, Function.comp_def]
    rw [range_succ, e2]
    cases e : p 0 with
    | true =>
      rw [e] at c0
      have h0 : fe (δ.set i (some (.p (.int lo)))) S = .ok (.p (g 0)) S := by simpa using h 0 (by omega) e
      rw [lc_take trivial rfl c0 h0, ih', Res.bind_ok, ev_kLcC]
      rfl
    | false =>
      rw [e] at c0
      rw [lc_skip trivial rfl c0, ih']
      rfl
theorem range_one {n k0 : Nat} {p : Nat → Bool} (h : k0 < n) (hp : ∀ k < n, p k = true ↔ k = k0) : (List.range n).filter p = [k0] := by
  have e : (List.range n).filter p = (List.range n).filter (fun k => k == k0) := List.filter_congr fun k hk => by
    have := hp k (List.mem_range.mp hk)
    cases e : p k with
    | true => rw [e] at this; simp [this.mp rfl]
    | false =>
      rw [e] at this
      have : ¬ k = k0 := fun c => Bool.false_ne_true (this.mpr c)
      simp [this]
  rw [e]
  clear e hp
  induction n with
  | zero => omega
  | succ n ih =>
    rw [List.range_succ, List.filter_append]
    by_cases z : k0 = n
    · subst z
      have : (List.range k0).filter (fun k => k == k0) = [] := List.filter_eq_nil_iff.mpr fun k hk => by
        have := List.mem_range.mp hk
        simp; omega
      rw [this]; simp
    · rw [ih (by omega)]
      have : ¬ n = k0 := fun c => z c.symm
      simp [this]
theorem kMeth_c {o : OpM} {n : Nat} {xs : List PV} (h : S[n]? = some (.lst xs)) : kMeth o fs δ (.c n) S = (fs δ S).bind (kMeth2 o (.c n)) := ev_kMeth (litems_c h)
@[simp] theorem kMeth_last {o : OpM} {xs : List PV} : kMeth o fs δ (.c S.length) (S ++ [.lst xs]) = (fs δ (S ++ [.lst xs])).bind (kMeth2 o (.c S.length)) := kMeth_c last_get
theorem append_last {xs : List PV} {x : PV} (z : xs.length < 16777216) : appendM (.c S.length) [.p x] (S ++ [.lst xs]) = some (.p .non, S ++ [.lst (xs ++ [x])]) := by
  rw [append_c last_get z, last_set]
theorem setIx_c {n k : Nat} {xs : List PV} {x : PV} (h : S[n]? = some (.lst xs)) (hk : k < xs.length) : setIx (.c n) (.p (.int (k : Int))) (.p x) S = some (S.set n (.lst (xs.set k x))) := by
  have e : ixN xs.length (k : Int) = some k := by
    unfold ixN
    rw [if_pos (by omega), if_pos (by omega), Int.toNat_natCast]
  unfold setIx
  simp only [h, e, Option.map_some]
theorem tupleO_last {xs : List PV} : tupleO [.c S.length] (S ++ [.lst xs]) = some (.p (.tup xs), S ++ [.lst xs]) := tupleO_c last_get
@[simp] theorem gc_last {xs : List PV} {d : PV} {keep : Bool} : gcK S keep (.rt (.p d) (S ++ [.lst xs])) = .ok (.p d) S := by
  rw [gc_rt (okC_app _ _ _), last_take]
end
@[simp] theorem kLst5 {x0 x1 x2 x3 x4 : PV} {S : AH} : kLst [.p x0, .p x1, .p x2, .p x3, .p x4] S = .ok [x0, x1, x2, x3, x4] S := (rfl)
@[simp] theorem kLst6 {x0 x1 x2 x3 x4 x5 : PV} {S : AH} : kLst [.p x0, .p x1, .p x2, .p x3, .p x4, .p x5] S = .ok [x0, x1, x2, x3, x4, x5] S := (rfl)
@[simp] theorem kLst7 {x0 x1 x2 x3 x4 x5 x6 : PV} {S : AH} : kLst [.p x0, .p x1, .p x2, .p x3, .p x4, .p x5, .p x6] S = .ok [x0, x1, x2, x3, x4, x5, x6] S := (rfl)
@[simp] theorem kLst8 {x0 x1 x2 x3 x4 x5 x6 x7 : PV} {S : AH} : kLst [.p x0, .p x1, .p x2, .p x3, .p x4, .p x5, .p x6, .p x7] S = .ok [x0, x1, x2, x3, x4, x5, x6, x7] S := (rfl)
@[simp] theorem kLst9 {x0 x1 x2 x3 x4 x5 x6 x7 x8 : PV} {S : AH} : kLst [.p x0, .p x1, .p x2, .p x3, .p x4, .p x5, .p x6, .p x7, .p x8] S = .ok [x0, x1, x2, x3, x4, x5, x6, x7, x8] S := (rfl)
@[simp] theorem kLst10 {x0 x1 x2 x3 x4 x5 x6 x7 x8 x9 : PV} {S : AH} : kLst [.p x0, .p x1, .p x2, .p x3, .p x4, .p x5, .p x6, .p x7, .p x8, .p x9] S = .ok [x0, x1, x2, x3, x4, x5, x6, x7, x8, x9] S := (rfl)
@[simp] theorem kLst11 {x0 x1 x2 x3 x4 x5 x6 x7 x8 x9 x10 : PV} {S : AH} : kLst [.p x0, .p x1, .p x2, .p x3, .p x4, .p x5, .p x6, .p x7, .p x8, .p x9, .p x10] S = .ok [x0, x1, x2, x3, x4, x5, x6, x7, x8, x9, x10] S := (rfl)
@[simp] theorem kLst12 {x0 x1 x2 x3 x4 x5 x6 x7 x8 x9 x10 x11 : PV} {S : AH} : kLst [.p x0, .p x1, .p x2, .p x3, .p x4, .p x5, .p x6, .p x7, .p x8, .p x9, .p x10, .p x11] S = .ok [x0, x1, x2, x3, x4, x5, x6, x7, x8, x9, x10, x11] S := (rfl)
@[simp] theorem kLst13 {x0 x1 x2 x3 x4 x5 x6 x7 x8 x9 x10 x11 x12 : PV} {S : AH} : kLst [.p x0, .p x1, .p x2, .p x3, .p x4, .p x5, .p x6, .p x7, .p x8, .p x9, .p x10, .p x11, .p x12] S = .ok [x0, x1, x2, x3, x4, x5, x6, x7, x8, x9, x10, x11, x12] S := (rfl)
@[simp] theorem kTup5 {x0 x1 x2 x3 x4 : PV} {S : AH} : DL.kTup [.p x0, .p x1, .p x2, .p x3, .p x4] S = .ok (.p (.tup [x0, x1, x2, x3, x4])) S := (rfl)
@[simp] theorem kTup6 {x0 x1 x2 x3 x4 x5 : PV} {S : AH} : DL.kTup [.p x0, .p x1, .p x2, .p x3, .p x4, .p x5] S = .ok (.p (.tup [x0, x1, x2, x3, x4, x5])) S := (rfl)
@[simp] theorem kTup7 {x0 x1 x2 x3 x4 x5 x6 : PV} {S : AH} : DL.kTup [.p x0, .p x1, .p x2, .p x3, .p x4, .p x5, .p x6] S = .ok (.p (.tup [x0, x1, x2, x3, x4, x5, x6])) S := (rfl)
theorem listF_tup {xs : List PV} {S : AH} : listF [.p (.tup xs)] S = some xs := (rfl)
theorem addO_lst {xs ys : List PV} {S : AH} (h : xs.length + ys.length ≤ 16777216) : addO (.p (.lst xs)) (.p (.lst ys)) S = some (.p (.lst (xs ++ ys)), S) := by
  show (if xs.length + ys.length ≤ sizeLine then _ else _) = _
  rw [if_pos (by rw [show sizeLine = 16777216 by decide]; exact h)]
theorem mulO_tup {xs : List PV} {k : Int} {S : AH} (h : xs ≠ [] ∧ 2 ≤ k ∧ k ≤ 1000 ∧ xs.length ≤ 1000) : mulO (.p (.tup xs)) (.p (.int k)) S = some (.p (.tup (List.replicate k.toNat xs).flatten), S) := by
  show (if xs ≠ [] ∧ 2 ≤ k ∧ k ≤ 1000 ∧ xs.length ≤ 1000 then _ else _) = _
  rw [if_pos h]
/- try -/
def tryOf (sub : Str → Option Bool) (fs : Sig → AH → Out) (o : Out) : Out := match o with
  | .exc c p δ' S' => match sub c with
    | some true => (fs δ' S').nox
    | some false => .exc c p δ' S'
    | none => .bad
  | o => o
@[simp] theorem ev_try {sub : Str → Option Bool} {fb fs : Sig → AH → Out} {δ : Sig} {S : AH} : dTry sub fb fs δ S = tryOf sub fs (fb δ S) := by
  unfold dTry tryOf
  rfl
@[simp] theorem try_nx {sub : Str → Option Bool} {fs : Sig → AH → Out} {δ : Sig} {S : AH} : tryOf sub fs (.nx δ S) = .nx δ S := (rfl)
@[simp] theorem try_rt {sub : Str → Option Bool} {fs : Sig → AH → Out} {d : DV} {S : AH} : tryOf sub fs (.rt d S) = .rt d S := (rfl)
theorem try_exc {sub : Str → Option Bool} {fs : Sig → AH → Out} {c : Str} {p : List (Str × PV)} {δ : Sig} {S : AH} (h : sub c = some true) : tryOf sub fs (.exc c p δ S) = (fs δ S).nox := by
  unfold tryOf
  simp only [h]
@[simp] theorem onox_nx {δ : Sig} {S : AH} : (Out.nx δ S).nox = .nx δ S := (rfl)
@[simp] theorem onox_rt {d : DV} {S : AH} : (Out.rt d S).nox = .rt d S := (rfl)
theorem sorted_tup {ns : List Int} {S : AH} : sortedF [.p (.tup (ns.map PV.int))] S = some ((sortI ns).map PV.int) := by
  unfold sortedF
  simp only [intsOf_map]
theorem kAppF_some {o : OpF} {ds : List DV} {ps : List PV} {S : AH} (h : o ds S = some ps) : kAppF o ds S = .ok ps S := by
  unfold kAppF
  simp only [h]
/- two cells at the end -/
section
variable {R : AH} {A B : Cell} {δ : Sig} {fs : Sig → AH → Res (List DV)}
@[simp] theorem two_get0 : (R ++ [A, B])[R.length]? = some A := by simp
@[simp] theorem two_get1 : (R ++ [A, B])[R.length + 1]? = some B := by
  rw [List.getElem?_append_right (by omega), Nat.add_sub_cancel_left]; rfl
@[simp] theorem two_set0 {C : Cell} : (R ++ [A, B]).set R.length C = R ++ [C, B] := by
  rw [List.set_append_right _ _ (Nat.le_refl _), Nat.sub_self]; rfl
@[simp] theorem two_set1 {C : Cell} : (R ++ [A, B]).set (R.length + 1) C = R ++ [A, C] := by
  rw [List.set_append_right _ _ (by omega), Nat.add_sub_cancel_left]; rfl
@[simp] theorem two_take : (R ++ [A, B]).take R.length = R := by simp
@[simp] theorem kMeth_two0 {o : OpM} {xs : List PV} : kMeth o fs δ (.c R.length) (R ++ [.lst xs, B]) = (fs δ (R ++ [.lst xs, B])).bind (kMeth2 o (.c R.length)) := kMeth_c two_get0
@[simp] theorem kMeth_two1 {o : OpM} {xs : List PV} : kMeth o fs δ (.c (R.length + 1)) (R ++ [A, .lst xs]) = (fs δ (R ++ [A, .lst xs])).bind (kMeth2 o (.c (R.length + 1))) := kMeth_c two_get1
@[simp] theorem kMeth0_two0 {o : OpM} {xs : List PV} : kMeth0 o (.c R.length) (R ++ [.lst xs, B]) = lift (o (.c R.length) [] (R ++ [.lst xs, B])) := ev_kMeth0 (litems_c two_get0)
@[simp] theorem kMeth0_two1 {o : OpM} {xs : List PV} : kMeth0 o (.c (R.length + 1)) (R ++ [A, .lst xs]) = lift (o (.c (R.length + 1)) [] (R ++ [A, .lst xs])) := ev_kMeth0 (litems_c two_get1)
theorem append_two0 {xs : List PV} {x : PV} (z : xs.length < 16777216) : appendM (.c R.length) [.p x] (R ++ [.lst xs, B]) = some (.p .non, R ++ [.lst (xs ++ [x]), B]) := by
  rw [append_c two_get0 z, two_set0]
theorem append_two1 {xs : List PV} {x : PV} (z : xs.length < 16777216) : appendM (.c (R.length + 1)) [.p x] (R ++ [A, .lst xs]) = some (.p .non, R ++ [A, .lst (xs ++ [x])]) := by
  rw [append_c two_get1 z, two_set1]
theorem pop_c {n : Nat} {xs : List PV} {y : PV} {S : AH} (h : S[n]? = some (.lst (xs ++ [y]))) : popM (.c n) [] S = some (.p y, S.set n (.lst xs)) := by
  unfold popM
  simp [h]
@[simp] theorem pop_two0 {xs : List PV} {y : PV} : popM (.c R.length) [] (R ++ [.lst (xs ++ [y]), B]) = some (.p y, R ++ [.lst xs, B]) := by
  rw [pop_c two_get0, two_set0]
@[simp] theorem pop_two1 {xs : List PV} {y : PV} : popM (.c (R.length + 1)) [] (R ++ [A, .lst (xs ++ [y])]) = some (.p y, R ++ [A, .lst xs]) := by
  rw [pop_c two_get1, two_set1]
@[simp] theorem len_two0 {xs : List PV} : lenO [.c R.length] (R ++ [.lst xs, B]) = some (.p (.int xs.length), R ++ [.lst xs, B]) := lenO_c two_get0
@[simp] theorem len_two1 {xs : List PV} : lenO [.c (R.length + 1)] (R ++ [A, .lst xs]) = some (.p (.int xs.length), R ++ [A, .lst xs]) := lenO_c two_get1
@[simp] theorem tuple_two0 {xs : List PV} : tupleO [.c R.length] (R ++ [.lst xs, B]) = some (.p (.tup xs), R ++ [.lst xs, B]) := tupleO_c two_get0
@[simp] theorem tuple_two1 {xs : List PV} : tupleO [.c (R.length + 1)] (R ++ [A, .lst xs]) = some (.p (.tup xs), R ++ [A, .lst xs]) := tupleO_c two_get1
end
@[simp] theorem slO_tup {xs : List PV} {lo hi : Option Int} {S : AH} : slO (.p (.tup xs)) lo hi S = some (.p (.tup (cutL xs lo hi)), S) := rfl
@[simp] theorem slO_fro {xs : List PV} {lo hi : Option Int} {S : AH} : slO (.p (.fro xs)) lo hi S = some (.p (.lst (cutL xs lo hi)), S) := rfl
@[simp] theorem slO_lst {xs : List PV} {lo hi : Option Int} {S : AH} : slO (.p (.lst xs)) lo hi S = some (.p (.lst (cutL xs lo hi)), S) := rfl
@[simp] theorem revO_tup {xs : List PV} {S : AH} : revO (.p (.tup xs)) S = some (.p (.tup xs.reverse), S) := rfl
theorem cut_from0 {α : Type} {xs : List α} {k : Nat} (h : k ≤ xs.length) : cutL xs (some (k : Int)) none = xs.drop k := by
  unfold cutL
  have e1 : HT.sIx xs.length 0 (some (k : Int)) = k := by
    rw [HT.sIx_nat]; omega
  have e2 : HT.sIx xs.length xs.length none = xs.length := rfl
  rw [e1, e2]
  exact List.take_of_length_le (by rw [List.length_drop]; omega)
theorem cut_to0 {α : Type} {xs : List α} {k : Nat} (h : k ≤ xs.length) : cutL xs none (some (k : Int)) = xs.take k := by
  unfold cutL
  have e1 : HT.sIx xs.length xs.length (some (k : Int)) = k := by
    rw [HT.sIx_nat]; omega
  have e2 : HT.sIx xs.length 0 none = 0 := rfl
  rw [e1, e2]
  rfl
theorem cut_from {α : Type} {xs : List α} {k : Nat} (h : True := trivial) : cutL xs (some (k : Int)) none = xs.drop k := by
  by_cases z : k ≤ xs.length
  · exact cut_from0 z
  · unfold cutL
    have e1 : HT.sIx xs.length 0 (some (k : Int)) = xs.length := by
      rw [HT.sIx_nat]; omega
    rw [e1, List.drop_length, List.drop_of_length_le (by omega)]
    simp
theorem cut_to {α : Type} {xs : List α} {k : Nat} (h : True := trivial) : cutL xs none (some (k : Int)) = xs.take k := by
  by_cases z : k ≤ xs.length
  · exact cut_to0 z
  · unfold cutL
    have e1 : HT.sIx xs.length xs.length (some (k : Int)) = xs.length := by
      rw [HT.sIx_nat]; omega
    have e2 : HT.sIx xs.length 0 none = 0 := rfl
    rw [e1, e2, List.take_of_length_le (by simp), List.take_of_length_le (by omega)]
    rfl
theorem small62_of {i : Int} (h : -(2 ^ 62) < i ∧ i < 2 ^ 62) : small62 i := by
  unfold small62
  omega
end
end DL
namespace DL
noncomputable section
open PySem PySem.Spec PyProof.Rows L2
/-! ### nests: lists whose items are cells -/
def WK (M : Wd) (E : XK) (as : As) (H : Hp) (r : Res (List Nat)) (Q : VK) : Prop := match r with
  | .ok ks S' => ∀ as' H' p vs, Ext as H as' H' → SR M as' H' S' → vs.length ≤ sizeLine → KRs as' vs ks → H' p = none → Q (.ref p) (upd H' p (.lst vs))
  | .exc c p S' => ∀ as' H' cls dd, Ext as H as' H' → SR M as' H' S' → ExR M as' H' c p cls dd → E cls dd H'
  | .bad => False
def dNest (f : Sig → AH → Res (List Nat)) : Sig → AH → Res DV := fun δ S => (f δ S).bind fun ks S => .ok (.c S.length) (S ++ [.nst ks])
section
variable {M : Wd} {E0 E1 : XK} {as as' : As} {H H' : Hp} {α β : Type} {R : As → Hp → β → α → Prop}
theorem WK.later {r : Res (List Nat)} {Q : VK} (x : Ext as H as' H') (w : WK M E0 as H r Q) : WK M E0 as' H' r Q := by
  cases r with
  | ok a S => exact fun as2 H2 p vs e => w as2 H2 p vs (x.trans e)
  | exc c p S => exact fun as2 H2 cls dd e => w as2 H2 cls dd (x.trans e)
  | bad => exact w
theorem WK.bind {r : Res α} {k : α → AH → Res (List Nat)} {Q : VK} (w : WK M E0 as H (r.bind k) Q) :
    WR M E0 R as H r (fun b H1 => ∃ as1 S1 a, r = .ok a S1 ∧ Ext as H as1 H1 ∧ SR M as1 H1 S1 ∧ R as1 H1 b a ∧ WK M E0 as1 H1 (k a S1) Q) := by
  cases r with
  | ok a S => exact fun as2 H2 b e s q => ⟨as2, S, a, rfl, e, s, q, WK.later e w⟩
  | exc c p S => exact w
  | bad => exact w
theorem WK.here {S : AH} {ks : List Nat} {Q : VK} {p : Addr} {vs : List V} (w : WK M E0 as H (.ok ks S) Q) (s : SR M as H S) (z : vs.length ≤ sizeLine) (r : KRs as vs ks) (n : H p = none) : Q (.ref p) (upd H p (.lst vs)) := w as H p vs (Ext.refl _ _) s z r n
theorem WK.nest {r : Res (List Nat)} {Q : VK} (w : WR M E0 (DVR M) as H (r.bind fun ks S => .ok (.c S.length) (S ++ [.nst ks])) Q) : WK M E0 as H r Q := by
  cases r with
  | ok ks S => exact fun as2 H2 p vs e s z t n => w (as2.add p) _ _ (e.trans (ext_cell s n)) (s.newNest n z t) ⟨p, by rw [← s.len]; simp [As.add], rfl⟩
  | exc c p S => exact w
  | bad => exact w
end
def tK (M : Wd) (E : L2.St → XK) (f : Sig → AH → Res (List Nat)) : TE := fun σ H Q => ∃ as δ S, SR M as H S ∧ ER M as H σ δ ∧ WK M (E σ) as H (f δ S) Q
/-- a new list whose items are cells -/
abbrev FK (X : Cx) (E : L2.St → XK) (e : Expr) (f : Sig → AH → Res (List Nat)) : Prop := PE X e (tK (wd X) E f)
theorem de_nest {X : Cx} {E : L2.St → XK} {e : Expr} {f : Sig → AH → Res (List Nat)} (h : FK X E e f) : DE X E e (dNest f) := h.imp fun σ H Q ⟨as, δ, S, sr, er, w⟩ => ⟨as, δ, S, sr, er, WK.nest w⟩
def cells : List DV → Option (List Nat)
  | [] => some []
  | .c k :: r => (cells r).map fun t => k :: t
  | .p _ :: _ => none
theorem cells_ok {M : Wd} {as : As} {H : Hp} : ∀ {ds : List DV} {vs : List V} {ks : List Nat}, DVRs M as H vs ds → cells ds = some ks → KRs as vs ks
  | [], _, _, .nil, e => by cases e; exact .nil
  | .c k :: r, _, _, .cons h t, e => by
    simp only [cells, Option.map_eq_some_iff] at e
    obtain ⟨qs, e1, rfl⟩ := e
    exact .cons h (cells_ok t e1)
  | .p _ :: _, _, _, _, e => by cases e
def dLstK (fs : Sig → AH → Res (List DV)) : Sig → AH → Res (List Nat) := fun δ S => (fs δ S).bind fun ds S => match cells ds with
  | some ks => if ks.length ≤ 1000 then .ok ks S else .bad
  | none => .bad
theorem fk_lst {X : Cx} {E : L2.St → XK} {es : List Expr} {pos : Pos} {fs : Sig → AH → Res (List DV)} (h : DA X E es fs) : FK X E (.List es pos) (dLstK fs) := (pe_lst h).imp fun σ H Q ⟨as, δ, S, sr, er, w⟩ =>
  ⟨as, δ, S, sr, er, (WK.bind w).mono fun _ _ _ _ vs _ _ _ _ ⟨as1, S1, ds, _, x1, s1, r1, w1⟩ => by
    split at w1
    · rename_i ks e
      split at w1
      · rename_i z
        have t := cells_ok r1 e
        have z2 : vs.length ≤ sizeLine := by rw [t.length]; exact le1000 z
        exact ⟨z2, fun p n => w1.here s1 z2 t n⟩
      · exact w1.elim
    · exact w1.elim⟩
open Classical in
def lcGoK (ck : AH → Prop) (q : Pat) (fc : Sig → AH → Res Bool) (fe : Sig → AH → Res DV) (δ : Sig) : List DV → AH → Res (List Nat)
  | [], S => if ck S then .ok [] S else .bad
  | x :: xs, S => if ck S then match q.set x δ with
    | none => .bad
    | some δ2 => (fc δ2 S).nox.bind fun b S1 => if b = true then (fe δ2 S1).nox.bind fun d S2 => match d with
        | .c y => (lcGoK ck q fc fe δ xs S2).bind fun ys S3 => .ok (y :: ys) S3
        | .p _ => .bad
      else lcGoK ck q fc fe δ xs S1
    else .bad
def dLcK (fi : Sig → AH → Res Its') (q : Pat) (fc : Sig → AH → Res Bool) (fe : Sig → AH → Res DV) (vs : List Nat) : Sig → AH → Res (List Nat) := fun δ S => (fi δ S).bind fun x S1 => if x.1.length ≤ 16777216 then lcGoK x.2 q fc fe (wipeD δ vs) x.1 S1 else .bad
section
variable {X : Cx} {E : L2.St → XK} {elt tg iter : Expr} {ifs : List Expr} {scope : Scope} {own : List (Str × Nat)} {pos : Pos} {fi : Sig → AH → Res Its'} {q : Pat} {fc : Sig → AH → Res Bool} {fe : Sig → AH → Res DV}
theorem lc_tN {σ : L2.St} {H : Hp} {Q : VK} {as : As} {δ : Sig} {S : AH} {vs : List Nat} (hq : ∀ i ∈ q.slots, i ∈ vs) (sr : SR (wd X) as H S) (er : ER (wd X) as H σ δ) (w : WK (wd X) (E σ) as H (dLcK fi q fc fe vs δ S) Q) :
    tLc (tI (wd X) E fi) (tPat X.K q) (tDT (wd X) EN fc) (tD (wd X) EN fe) vs σ H Q := by
  refine ⟨as, δ, S, sr, er, (WK.bind w).mono fun _ _ _ H1 J _ _ _ _ ⟨as1, S1, x, _, e1, s1, y1, w1⟩ => ?_⟩
  obtain ⟨xs, ck⟩ := x
  intro D nD
  have er1 := er.mono e1.w
  have nh : ¬ as1.hid D := (s1.fresh nD).2
  dsimp only at w1 y1
  have hz : xs.length ≤ 16777216 := by
    refine Classical.byContradiction fun n => ?_
    rw [if_neg n] at w1
    exact w1
  rw [if_pos hz] at w1
  refine ⟨fun i m H => m = xs.length - i ∧ i ≤ xs.length ∧ ∃ (asm : As) (Sm : AH) (accV : List V) (accP : List Nat), H D = some (.lst accV) ∧ accV.length ≤ i ∧ Ext as1 H1 asm (del H D) ∧ SR (wd X) asm (del H D) Sm ∧ KRs asm accV accP ∧
      WK (wd X) (E σ) asm (del H D) ((lcGoK ck q fc fe (wipeD δ vs) (xs.drop i) Sm).bind fun ys S => .ok (accP ++ ys) S) Q, ⟨xs.length, rfl, Nat.zero_le _, as1, S1, [], [], upd_same, Nat.zero_le _, ?_⟩, ?_⟩
  · rw [del_upd nD]
    refine ⟨Ext.refl _ _, s1, .nil, ?_⟩
    rw [List.drop_zero]
    have e : ((lcGoK ck q fc fe (wipeD δ vs) xs S1).bind fun ys S => Res.ok ([] ++ ys) S) = lcGoK ck q fc fe (wipeD δ vs) xs S1 := by
      cases lcGoK ck q fc fe (wipeD δ vs) xs S1 <;> rfl
    rw [e]
    exact w1
  · rintro i m H2 ⟨rfl, hi, asm, Sm, accV, accP, hD, hlen, em, sm, tm, wm⟩
    have eH : upd (del H2 D) D (.lst accV) = H2 := upd_del hD
    have nm : del H2 D D = none := del_same _ _
    have nhm : ¬ asm.hid D := by rw [em.hids]; exact nh
    have sh : SR (wd X) (asm.hide D) H2 Sm := by have := sm.hide (o := .lst accV) nm; rw [eH] at this; exact this
    have xw : Exw as1 H1 (asm.hide D) H2 := by have := em.w.hide (o := .lst accV) nD; rw [eH] at this; exact this
    by_cases hlt : i < xs.length
    · have hx : xs[i]? = some xs[i] := List.getElem?_eq_getElem hlt
      have hd : xs.drop i = xs[i] :: xs.drop (i + 1) := List.drop_eq_getElem_cons hlt
      rw [hd] at wm
      unfold lcGoK at wm
      have hck : ck Sm := by
        refine Classical.byContradiction fun n => ?_
        rw [if_neg n] at wm
        exact wm
      rw [if_pos hck] at wm
      refine .inr ⟨y1.go _ _ _ xw sh hck i hlt, fun H' => (i + 1 ≤ xs.length ∧ ∃ (asm : As) (Sm : AH) (accV : List V) (accP : List Nat), H' D = some (.lst accV) ∧ accV.length ≤ i + 1 ∧ Ext as1 H1 asm (del H' D) ∧ SR (wd X) asm (del H' D) Sm ∧ KRs asm accV accP ∧
        WK (wd X) (E σ) asm (del H' D) ((lcGoK ck q fc fe (wipeD δ vs) (xs.drop (i + 1)) Sm).bind fun ys S => .ok (accP ++ ys) S) Q), fun H' n => ⟨xs.length - (i + 1), by omega, rfl, n.1, n.2⟩, fun v H' yv => ?_⟩
      obtain ⟨e3, s3, r3⟩ := y1.yld _ _ _ xw sh hck i _ v H' hx yv
      cases eq : q.set xs[i] (wipeD δ vs) with
      | none => rw [eq] at wm; exact wm.elim
      | some δ2 =>
        rw [eq] at wm
        dsimp only at wm
        rw [bind_assoc'] at wm
        have erh : ER (wd X) (asm.hide D) H' (L2.wipe σ vs) (wipeD δ vs) := ((er1.mono xw).wipe vs).mono e3.w
        refine tPat_ok (M := wd X) q erh r3 eq fun σ2 er2 wi2 => ⟨by rw [wi2 vs hq, wipe_idem], ?_⟩
        obtain ⟨b, Sb, eb, wb⟩ := nox_cases (fun r => WK (wd X) (E σ) asm (del H2 D) r Q) (fun z => z) wm
        refine ⟨asm.hide D, δ2, Sm, s3, er2, ?_⟩
        rw [eb]
        intro as4 H4 b4 e4 s4 q4
        cases q4
        have ec : Ext (asm.hide D) (upd (del H2 D) D (.lst accV)) as4 H4 := by rw [eH]; exact e3.trans e4
        cases b with
        | false =>
          rw [if_neg Bool.false_ne_true] at wb ⊢
          obtain ⟨u1, u2, u3⟩ := Ext.unhide nm nhm ec
          rw [u2] at s4
          exact ⟨hlt, ⟨as4.cells, asm.hid⟩, Sb, accV, accP, u3, by omega, em.trans u1, s4.unhide nhm ⟨_, u3⟩, tm.mono u1.w, WK.later u1 wb⟩
        | true =>
          rw [if_pos rfl] at wb ⊢
          rw [bind_assoc'] at wb
          obtain ⟨d, Sd, ed, wd'⟩ := nox_cases (fun r => WK (wd X) (E σ) asm (del H2 D) r Q) (fun z => z) wb
          refine ⟨as4, δ2, Sb, s4, er2.mono e4.w, ?_⟩
          rw [ed]
          intro as5 H5 y e5 s5 r5
          have ec5 : Ext (asm.hide D) (upd (del H2 D) D (.lst accV)) as5 H5 := ec.trans e5
          obtain ⟨u1, u2, u3⟩ := Ext.unhide nm nhm ec5
          rw [u2] at s5 r5
          cases d with
          | p n => exact wd'.elim
          | c yv =>
            obtain ⟨bb, eb2, rfl⟩ := r5
            refine ⟨accV, u3, ?_, hlt, ⟨as5.cells, asm.hid⟩, Sd, accV ++ [.ref bb], accP ++ [yv], upd_same, by rw [List.length_append, List.length_singleton]; omega, ?_⟩
            · have hs : sizeLine = 16777216 := by decide
              omega
            rw [del_updu]
            refine ⟨em.trans u1, s5.unhide nhm ⟨_, u3⟩, (tm.mono u1.w).append (.cons ⟨bb, eb2, rfl⟩ .nil), ?_⟩
            have e : ((lcGoK ck q fc fe (wipeD δ vs) (xs.drop (i + 1)) Sd).bind fun ys S => Res.ok (accP ++ [yv] ++ ys) S) = ((lcGoK ck q fc fe (wipeD δ vs) (xs.drop (i + 1)) Sd).bind fun ys S => Res.ok (yv :: ys) S).bind fun ys S => Res.ok (accP ++ ys) S := by
              cases lcGoK ck q fc fe (wipeD δ vs) (xs.drop (i + 1)) Sd <;> simp [Res.bind]
            rw [e]
            exact WK.later u1 wd'
    · have hi' : i = xs.length := by omega
      subst hi'
      rw [List.drop_length] at wm
      unfold lcGoK at wm
      have hck : ck Sm := by
        refine Classical.byContradiction fun n => ?_
        rw [if_neg n] at wm
        exact wm
      rw [if_pos hck] at wm
      refine .inl ⟨y1.stop _ _ _ xw sh hck, ?_⟩
      have wq : WK (wd X) (E σ) asm (del H2 D) (Res.ok (accP ++ []) Sm) Q := wm
      rw [List.append_nil] at wq
      have := wq.here sm (by have hs : sizeLine = 16777216 := by decide
                             omega) tm nm
      rw [eH] at this
      exact this
theorem fk_lc (g : Gd X E) (hN : X.N.Nodup) (hi : DI X E tg iter fi) (ok : BlkOk X.N X.env.scope scope own)
    (hg : ∀ (s : Shared) (H : Hp) (C : Addr) (cl : List (Str × Addr)) (fp : List Addr), DG (X.blk s H scope (compEnvC scope cl C X.env) fp) tg q) (ht : ∀ (s : Shared) (H : Hp) (C : Addr) (cl : List (Str × Addr)) (fp : List Addr), DTs (X.blk s H scope (compEnvC scope cl C X.env) fp) EN ifs fc)
    (he : ∀ (s : Shared) (H : Hp) (C : Addr) (cl : List (Str × Addr)) (fp : List Addr), DE (X.blk s H scope (compEnvC scope cl C X.env) fp) EN elt fe) (hq : ∀ i ∈ q.slots, i ∈ own.map (·.2)) (hs : ∀ x, foldedSetIterable iter X.env x = pure x := by intro _; rfl) :
    FK X E (.ListComp elt [⟨tg, iter, ifs, 0⟩] scope pos) (dLcK fi q fc fe (own.map (·.2))) :=
  L2.PE.imp (pe_lc g.calm hN hi ok hg ht he hs) fun σ H Q ⟨as, δ, S, sr, er, w⟩ => lc_tN hq sr er w
/-- y = [.. for ..], cells in it -/
def dSetN (i : Nat) (f : Sig → AH → Res (List Nat)) : Sig → AH → Out := fun δ S => (dNest f δ S).out δ fun d S => .nx (δ.set i (some d)) S
theorem ds_setLcN {i : Nat} {y : Str} {py spos : Pos} (g : Gd X E) (hN : X.N.Nodup) (hy : X.N[i]? = some y) (hyl : X.env.scope.names.lookup y = some .local)
    (hsw : swapsWith (.ListComp elt [⟨tg, iter, ifs, 0⟩] scope pos) (some (.Name y py)) spos.line X.env = pure true) (hi : DI X E tg iter fi) (ok : BlkOk X.N X.env.scope scope own)
    (hg : ∀ (s : Shared) (H : Hp) (C : Addr) (cl : List (Str × Addr)) (fp : List Addr), DG (X.blk s H scope (compEnvC scope cl C X.env) fp) tg q) (ht : ∀ (s : Shared) (H : Hp) (C : Addr) (cl : List (Str × Addr)) (fp : List Addr), DTs (X.blk s H scope (compEnvC scope cl C X.env) fp) EN ifs fc)
    (he : ∀ (s : Shared) (H : Hp) (C : Addr) (cl : List (Str × Addr)) (fp : List Addr), DE (X.blk s H scope (compEnvC scope cl C X.env) fp) EN elt fe) (hq : ∀ i ∈ q.slots, i ∈ own.map (·.2)) (hs : ∀ x, foldedSetIterable iter X.env x = pure x := by intro _; rfl) :
    DS X E (.Assign [.Name y py] (.ListComp elt [⟨tg, iter, ifs, 0⟩] scope pos) spos) (dSetN i (dLcK fi q fc fe (own.map (·.2)))) :=
  (ps_setLc g.calm hN hy hyl hsw hi ok hg ht he hs).imp fun D σ H ⟨as, δ, S, sr, er, w⟩ => lc_tN hq sr er (WK.nest ((w.bind er).mono fun _ _ _ _ v _ _ _ _ ⟨as1, S1, d1, _, x1, s1, r1, w1⟩ => w1.here s1 ((er.mono x1.w).set r1 i)))
end
/-! ### list(range(..)) -/
def rgI (i j : Int) : List Int := (List.range (j - i).toNat).map fun (k : Nat) => i + (k : Int)
open Classical in
def dLstRg (fa fb : Sig → AH → Res DV) : Sig → AH → Res (List PV) := fun δ S => (fa δ S).bind fun a S => (fb δ S).bind fun b S => match a, b with
  | .p (.int i), .p (.int j) => if RgOk i j then .ok ((rgI i j).map PV.int) S else .bad
  | _, _ => .bad
theorem rgV_map (i j : Int) : rgV i j = (rgI i j).map V.int := by
  unfold rgV rgI
  rw [List.map_map]
  rfl
section
variable {X : Cx} {E : L2.St → XK} {a b : Expr} {p p2 pos pos2 : Pos} {fa fb : Sig → AH → Res DV}
theorem fe_lrg2 (g : Gd X E) (hg : Gl X "list") (hm : X.mg "list" = none) (hg2 : Gl X "range") (hm2 : X.mg "range" = none) (ha : DE X E a fa) (hb : DE X E b fb) (na : starEach [a, b] X.env = (false, eval a X.env) :: starEach [b] X.env := by rfl) (nb : starEach [b] X.env = (false, eval b X.env) :: starEach [] X.env := by rfl) (hpr : (backTo pos2 (starEach [b] X.env)).any (·.1) = false := by rfl)
    (ne : starEach [.Call (.Name "range" p2) [a, b] [] pos2] X.env = (false, eval (.Call (.Name "range" p2) [a, b] [] pos2) X.env) :: starEach [] X.env := by rfl) :
    FE X E (.Call (.Name "list" p) [.Call (.Name "range" p2) [a, b] [] pos2] [] pos) (dLstRg fa fb) := (pe_listRg g.calm hg hm (prg_2 hg2 hm2 ha hb na nb hpr) ne).imp fun σ H Q ⟨as, δ, S, sr, er, w⟩ =>
  ⟨as, δ, S, sr, er, (WF.bind w).mono fun _ _ _ _ v _ _ _ _ ⟨as1, S1, d1, _, x1, s1, r1, w1⟩ => ⟨as1, δ, S1, s1, er.mono x1.w, (WF.bind w1).mono fun _ _ _ _ u _ _ _ _ ⟨as2, S2, d2, _, x2, s2, r2, w2⟩ => by
    have r1' := r1.mono x2.w
    split at w2
    · cases r1'; cases r2
      split at w2
      · rename_i z
        refine ⟨_, _, rfl, rfl, z, fun q n => ?_⟩
        rw [rgV_map]
        refine w2.here s2 ?_ (PRs.of_ints _) n
        rw [← rgV_map, rgV_length]
        exact z.2.2.2.2
      · exact w2.elim
    · exact w2.elim⟩⟩
end
end
end DL
namespace DL
noncomputable section
open PySem L2
section
variable {δ : Sig} {S : AH} {fa : Sig → AH → Res DV} {fs : Sig → AH → Res (List DV)} {fk : Sig → AH → Res (List Nat)} {q : Pat} {fi : Sig → AH → Res Its'} {fc : Sig → AH → Res Bool} {fe : Sig → AH → Res DV}
def kLstRg2 (a b : DV) (S : AH) : Res (List PV) := match a, b with
  | .p (.int i), .p (.int j) => (open Classical in if RgOk i j then .ok ((rgI i j).map PV.int) S else .bad)
  | _, _ => .bad
def kLstRg (fb : Sig → AH → Res DV) (δ : Sig) (a : DV) (S : AH) : Res (List PV) := (fb δ S).bind (kLstRg2 a)
@[simp] theorem ev_lstRg {fb : Sig → AH → Res DV} : dLstRg fa fb δ S = (fa δ S).bind (kLstRg fb δ) := (rfl)
@[simp] theorem ev_kLstRg {fb : Sig → AH → Res DV} {a : DV} : kLstRg fb δ a S = (fb δ S).bind (kLstRg2 a) := (rfl)
theorem kLstRg2_ok {i j : Int} (h : RgOk i j) : kLstRg2 (.p (.int i)) (.p (.int j)) S = .ok ((rgI i j).map PV.int) S := by
  unfold kLstRg2
  dsimp only
  rw [if_pos h]
def kNest (ks : List Nat) (S : AH) : Res DV := .ok (.c S.length) (S ++ [.nst ks])
@[simp] theorem ev_nest : dNest fk δ S = (fk δ S).bind kNest := (rfl)
@[simp] theorem ev_kNest {ks : List Nat} : kNest ks S = .ok (.c S.length) (S ++ [.nst ks]) := (rfl)
@[simp] theorem ev_setN {i : Nat} : dSetN i fk δ S = (dNest fk δ S).out δ (jSet i δ) := (rfl)
def kLstK (ds : List DV) (S : AH) : Res (List Nat) := match cells ds with
  | some ks => if ks.length ≤ 1000 then .ok ks S else .bad
  | none => .bad
@[simp] theorem ev_lstK : dLstK fs δ S = (fs δ S).bind kLstK := (rfl)
@[simp] theorem kLstK0 : kLstK [] S = .ok [] S := (rfl)
@[simp] theorem kLstK1 {a : Nat} : kLstK [.c a] S = .ok [a] S := (rfl)
@[simp] theorem kLstK2 {a b : Nat} : kLstK [.c a, .c b] S = .ok [a, b] S := (rfl)
@[simp] theorem kLstK3 {a b c : Nat} : kLstK [.c a, .c b, .c c] S = .ok [a, b, c] S := (rfl)
def kLcK (q : Pat) (fc : Sig → AH → Res Bool) (fe : Sig → AH → Res DV) (vs : List Nat) (δ : Sig) (x : Its') (S : AH) : Res (List Nat) := if x.1.length ≤ 16777216 then lcGoK x.2 q fc fe (wipeD δ vs) x.1 S else .bad
@[simp] theorem ev_lcK {vs : List Nat} : dLcK fi q fc fe vs δ S = (fi δ S).bind (kLcK q fc fe vs δ) := (rfl)
theorem ev_kLcK {vs : List Nat} {xs : List DV} {ck : AH → Prop} (h : xs.length ≤ 16777216) : kLcK q fc fe vs δ (xs, ck) S = lcGoK ck q fc fe (wipeD δ vs) xs S := by
  unfold kLcK
  rw [if_pos h]
theorem lcK_nil {ck : AH → Prop} (h : ck S) : lcGoK ck q fc fe δ [] S = .ok [] S := by
  unfold lcGoK
  rw [if_pos h]
def kLcCK (y : Nat) (ys : List Nat) (S : AH) : Res (List Nat) := .ok (y :: ys) S
theorem lcK_take {ck : AH → Prop} {x : DV} {y : Nat} {xs : List DV} {δ2 : Sig} {S1 S2 : AH} (h : ck S) (hq : q.set x δ = some δ2) (hc : fc δ2 S = .ok true S1) (he : fe δ2 S1 = .ok (.c y) S2) :
    lcGoK ck q fc fe δ (x :: xs) S = (lcGoK ck q fc fe δ xs S2).bind (kLcCK y) := by
  rw [show lcGoK ck q fc fe δ (x :: xs) S = _ from by unfold lcGoK; rfl, if_pos h]
  simp only [hq, hc, nox_ok, Res.bind_ok, if_true, he]
  rfl
/-- a comprehension of new flat lists -/
theorem lcK_cells (g : PV → List PV) : ∀ {xs : List PV} {S : AH}, (∀ x ∈ xs, ∀ S, ∃ δ2, q.set (.p x) δ = some δ2 ∧ fe δ2 S = .ok (.c S.length) (S ++ [.lst (g x)])) → lcGoK ckT q dYes fe δ (dit xs) S = .ok (List.range' S.length xs.length) (S ++ xs.map fun x => Cell.lst (g x))
  | [], S, _ => by rw [dit_nil, lcK_nil trivial]; simp
  | x :: xs, S, h => by
    obtain ⟨δ2, h1, h2⟩ := h x List.mem_cons_self S
    rw [dit_cons, lcK_take trivial h1 rfl h2, lcK_cells g fun y hy => h y (List.mem_cons_of_mem _ hy)]
    simp [kLcCK, List.range'_succ]
end
/-! ### a nest of flat lists above R -/
structure NestK (R S : AH) (n : Nat) (ks : List Nat) (rs : List (List PV)) : Prop where
  pre : S.take R.length = R
  nst : S[n]? = some (.nst ks)
  len : ks.length = rs.length
  lo : R.length ≤ n
  klo : ∀ k ∈ ks, R.length ≤ k
  nd : ks.Nodup
  nk : n ∉ ks
  row : ∀ i k, ks[i]? = some k → S[k]? = some (Cell.lst (rs.getD i []))
def Nest (R S : AH) (n : Nat) (rs : List (List PV)) : Prop := ∃ ks, NestK R S n ks rs
theorem okC_take {m : Nat} {R S : AH} (h : S.take R.length = R) : okC m R S := by
  have e : S = R ++ S.drop R.length := by
    have := List.take_append_drop R.length S
    rw [h] at this
    exact this.symm
  rw [e]
  exact okC_app m R _
theorem take_set {R S : AH} {k : Nat} {c : Cell} (h : S.take R.length = R) (hk : R.length ≤ k) : (S.set k c).take R.length = R := by
  rw [List.take_set, h, List.set_eq_of_length_le hk]
theorem take_more {R S J : AH} (h : S.take R.length = R) : (S ++ J).take R.length = R := by
  have hl : R.length ≤ S.length := by
    have := congrArg List.length h
    rw [List.length_take] at this
    omega
  rw [List.take_append_of_le_length hl, h]
section
variable {R S : AH} {n : Nat} {rs : List (List PV)}
theorem Nest.pre (h : Nest R S n rs) : S.take R.length = R := h.choose_spec.pre
theorem Nest.lenO (h : Nest R S n rs) : lenO [.c n] S = some (.p (.int rs.length), S) := by
  obtain ⟨ks, h⟩ := h
  unfold DL.lenO items nitems
  simp only [h.nst, h.len]
theorem Nest.ix (h : Nest R S n rs) {i : Nat} (hi : i < rs.length) : ∃ k, ixO (.c n) (.p (.int (i : Int))) S = some (.c k, S) ∧ S[k]? = some (Cell.lst (rs.getD i [])) ∧ R.length ≤ k ∧ k ≠ n ∧ ∀ xs, Nest R (S.set k (.lst xs)) n (rs.set i xs) := by
  obtain ⟨ks, h⟩ := h
  have hk : i < ks.length := by rw [h.len]; exact hi
  have e := List.getElem?_eq_getElem hk
  have hm : ks[i] ∈ ks := List.getElem_mem hk
  have ne : ks[i] ≠ n := fun z => h.nk (by rw [← z]; exact hm)
  refine ⟨ks[i], ?_, h.row i _ e, h.klo _ hm, ne, fun xs => ⟨ks, take_set h.pre (h.klo _ hm), by rw [List.getElem?_set_ne ne]; exact h.nst, by rw [List.length_set]; exact h.len, h.lo, h.klo, h.nd, h.nk, fun j k ej => ?_⟩⟩
  · unfold ixO items nitems
    have a : atI ks (i : Int) = some ks[i] := by
      unfold atI ixN
      rw [if_pos (by omega), if_pos (by omega)]
      simp [e]
    simp only [h.nst, a, Option.map_some]
  · by_cases z : i = j
    · subst z
      rw [e] at ej; cases ej
      have hs : ks[i] < S.length := (List.getElem?_eq_some_iff.mp (h.row i _ e)).1
      rw [List.getElem?_set_self hs]
      simp [hi]
    · have hj : j < ks.length := (List.getElem?_eq_some_iff.mp ej).1
      have ne2 : ks[i] ≠ k := fun w => by
        rw [List.getElem?_eq_getElem hj] at ej
        exact z ((List.getElem_inj h.nd).mp (by rw [w]; exact (Option.some.inj ej).symm))
      rw [List.getElem?_set_ne ne2, h.row j k ej]
      simp [List.getElem?_set_ne z]
/-- a new row -/
theorem Nest.push (h : Nest R S n rs) (xs : List PV) (z : rs.length < 16777216) : ∃ S', appendM (.c n) [.c S.length] (S ++ [Cell.lst xs]) = some (.p .non, S') ∧ Nest R S' n (rs ++ [xs]) := by
  obtain ⟨ks, h⟩ := h
  have hn : n < S.length := (List.getElem?_eq_some_iff.mp h.nst).1
  have hl : R.length ≤ S.length := by
    have := congrArg List.length h.pre
    rw [List.length_take] at this
    omega
  have e : (S ++ [Cell.lst xs])[n]? = some (.nst ks) := by rw [List.getElem?_append_left hn]; exact h.nst
  have kl : ∀ k ∈ ks, k < S.length := fun k hk => by
    obtain ⟨j, hj⟩ := List.mem_iff_getElem?.mp hk
    exact (List.getElem?_eq_some_iff.mp (h.row j k hj)).1
  refine ⟨(S ++ [Cell.lst xs]).set n (Cell.nst (ks ++ [S.length])), ?_, ks ++ [S.length], take_set (take_more h.pre) h.lo, ?_, by rw [List.length_append, List.length_append, h.len]; rfl, h.lo, fun k hk => ?_, ?_, fun hk => ?_, fun j k ej => ?_⟩
  · unfold appendM
    simp only [e]
    rw [if_pos (by rw [h.len]; exact z)]
  · rw [List.getElem?_set_self (by rw [List.length_append]; omega)]
  · rcases List.mem_append.mp hk with hk | hk
    · exact h.klo k hk
    · rcases List.mem_singleton.mp hk with rfl
      exact hl
  · refine List.nodup_append.mpr ⟨h.nd, by simp, fun a ha b hb => ?_⟩
    rcases List.mem_singleton.mp hb with rfl
    exact Nat.ne_of_lt (kl a ha)
  · rcases List.mem_append.mp hk with hk | hk
    · exact h.nk hk
    · have : n = S.length := by simpa using hk
      omega
  · by_cases hj : j < ks.length
    · rw [List.getElem?_append_left hj] at ej
      have hm := List.mem_of_getElem? ej
      have ne : n ≠ k := fun w => h.nk (by rw [w]; exact hm)
      rw [List.getElem?_set_ne ne, List.getElem?_append_left (kl k hm), h.row j k ej]
      have : j < rs.length := by rw [← h.len]; exact hj
      simp [List.getElem?_append_left this]
    · have hj2 : j < (ks ++ [S.length]).length := (List.getElem?_eq_some_iff.mp ej).1
      rw [List.length_append, List.length_singleton] at hj2
      have : j = ks.length := by omega
      subst this
      rw [List.getElem?_append_right (Nat.le_refl _), Nat.sub_self] at ej
      have : S.length = k := by simpa using ej
      subst this
      rw [List.getElem?_set_ne (by omega), List.getElem?_append_right (Nat.le_refl _), Nat.sub_self]
      rw [h.len]
      simp
theorem Nest.meth {o : OpM} {fs : Sig → AH → Res (List DV)} {δ : Sig} (h : Nest R S n rs) : kMeth o fs δ (.c n) S = (fs δ S).bind (kMeth2 o (.c n)) := by
  obtain ⟨ks, h⟩ := h
  refine ev_kMethN (ks := ks) ?_
  unfold nitems
  simp only [h.nst]
theorem frzCs_of {m : Nat} {S : AH} : ∀ {ks : List Nat} {rs : List (List PV)}, ks.length = rs.length → (∀ i k, ks[i]? = some k → m ≤ k ∧ S[k]? = some (Cell.lst (rs.getD i []))) → frzCs m S ks = some (rs.map PV.lst)
  | [], [], _, _ => rfl
  | [], _ :: _, h, _ => by simp at h
  | _ :: _, [], h, _ => by simp at h
  | k :: ks, r :: rs, h, hr => by
    obtain ⟨h1, h2⟩ := hr 0 k rfl
    have e1 : frzC m S k = some (.lst r) := by
      unfold frzC
      rw [if_pos h1]
      simp only [h2]
      rfl
    have e2 := frzCs_of (m := m) (S := S) (ks := ks) (rs := rs) (by simpa using h) fun i k' e => by
      have := hr (i + 1) k' (by simpa using e)
      simpa using this
    simp [frzCs, e1, e2]
theorem Nest.frz (h : Nest R S n rs) : frzD R.length S (.c n) = some (.lst (rs.map PV.lst)) := by
  obtain ⟨ks, h⟩ := h
  unfold frzD
  dsimp only
  rw [if_pos h.lo]
  simp only [h.nst]
  rw [frzCs_of h.len fun i k e => ⟨h.klo k (List.mem_of_getElem? e), h.row i k e⟩]
  rfl
/-- lists from a comprehension, then the nest -/
theorem nest_new (R : AH) (rs : List (List PV)) : Nest R (R ++ rs.map Cell.lst ++ [Cell.nst (List.range' R.length rs.length)]) (R.length + rs.length) rs := by
  refine ⟨List.range' R.length rs.length, ?_, ?_, by simp, by omega, fun k hk => ?_, List.nodup_range', fun hk => ?_, fun i k e => ?_⟩
  · rw [List.append_assoc, List.take_append_of_le_length (Nat.le_refl _), List.take_length]
  · rw [List.getElem?_append_right (by simp)]
    simp
  · have := List.mem_range'_1.mp hk
    omega
  · have := List.mem_range'_1.mp hk
    omega
  · have hi : i < rs.length := by
      have := (List.getElem?_eq_some_iff.mp e).1
      simpa using this
    have ek : k = R.length + i := by
      have := (List.getElem?_eq_some_iff.mp e).2
      simp at this
      omega
    subst ek
    rw [List.getElem?_append_left (by simp; omega), List.getElem?_append_right (by omega), Nat.add_sub_cancel_left]
    simp [hi]
end
end
end DL
namespace DL
noncomputable section
open PySem L2
section
variable {S : AH} {fb : Sig → AH → Out} {i : Nat} {d : DV}
/-- a loop that gives a value back at the first item that fails -/
theorem for_guardL (I : Sig → Prop) (b : PV → Bool) : ∀ {xs : List PV} {δ : Sig}, I δ → (∀ x ∈ xs, ∀ δ, I δ → (b x = true → ∃ δ', I δ' ∧ fb (δ.set i (some (.p x))) S = .nx δ' S) ∧ (b x = false → fb (δ.set i (some (.p x))) S = .rt d S)) →
    (xs.all b = true → ∃ δ', I δ' ∧ forGo ckT (.nm i) fb (dit xs) δ S = .nx δ' S) ∧ (xs.all b = false → forGo ckT (.nm i) fb (dit xs) δ S = .rt d S)
  | [], δ, h, _ => ⟨fun _ => ⟨δ, h, by rw [dit_nil, for_nil]⟩, fun e => by simp at e⟩
  | x :: xs, δ, h, st => by
    obtain ⟨s1, s2⟩ := st x List.mem_cons_self δ h
    rw [dit_cons, for_nm, List.all_cons]
    cases e : b x with
    | false =>
      rw [s2 e, after_rt]
      exact ⟨fun z => by simp at z, fun _ => rfl⟩
    | true =>
      obtain ⟨δ1, h1, e1⟩ := s1 e
      rw [e1, after_nx, Bool.true_and]
      exact for_guardL I b h1 fun y hy => st y (List.mem_cons_of_mem _ hy)
theorem for_guard (I : Sig → Prop) : ∀ {n : Nat} {lo : Int} {b : Nat → Bool} {δ : Sig}, I δ → (∀ k < n, ∀ δ, I δ → (b k = true → ∃ δ', I δ' ∧ fb (δ.set i (some (.p (.int (lo + (k : Int)))))) S = .nx δ' S) ∧ (b k = false → fb (δ.set i (some (.p (.int (lo + (k : Int)))))) S = .rt d S)) →
    ((List.range n).all b = true → ∃ δ', I δ' ∧ forGo ckT (.nm i) fb (rangeI lo n) δ S = .nx δ' S) ∧ ((List.range n).all b = false → forGo ckT (.nm i) fb (rangeI lo n) δ S = .rt d S)
  | 0, lo, b, δ, h, _ => ⟨fun _ => ⟨δ, h, for_nil⟩, fun e => by simp at e⟩
  | n + 1, lo, b, δ, h, st => by
    obtain ⟨s1, s2⟩ := st 0 (by omega) δ h
    rw [show lo + ((0 : Nat) : Int) = lo by simp] at s1 s2
    have er : (List.range (n + 1)).all b = (b 0 && (List.range n).all fun k => b (k + 1)) := by
      rw [List.range_succ_eq_map, List.all_cons, List.all_map]; rfl
    rw [range_succ, for_nm, er]
    cases e : b 0 with
    | false =>
      rw [s2 e, after_rt]
      exact ⟨fun z => by simp at z, fun _ => rfl⟩
    | true =>
      obtain ⟨δ1, h1, e1⟩ := s1 e
      rw [e1, after_nx, Bool.true_and]
      exact for_guard I (lo := lo + 1) (b := fun k => b (k + 1)) h1 fun k hk δ hδ => by
        have := st (k + 1) (by omega) δ hδ
        rwa [show lo + ((k + 1 : Nat) : Int) = lo + 1 + (k : Int) by omega] at this
end
theorem rg_len (n : Nat) (h : n ≤ 1000000) (S : AH) : kRng1 [.p (.int (n : Int))] S = .ok (rangeI 0 n, ckT) S := by
  have e : small62 (n : Int) := small62_of (by omega)
  rw [kRng1_ok e, Int.toNat_natCast]
theorem rg_two (m n : Nat) (h : n ≤ 1000000) (h2 : m ≤ 1000000) (S : AH) : kRng2 [.p (.int (m : Int)), .p (.int (n : Int))] S = .ok (rangeI m (n - m), ckT) S := by
  rw [kRng2_ok (small62_of (by omega)) (small62_of (by omega))]
  congr 3
  omega
theorem asg2 {a b : Nat} {x y : PV} {δ : Sig} {S : AH} : jAsg (.tp [.nm a, .nm b]) δ (.p (.tup [x, y])) S = .nx ((δ.set a (some (.p x))).set b (some (.p y))) S := ev_jAsg rfl
theorem datas_ints : ∀ ns : List Int, PV.datas (ns.map PV.int) = some (ns.map PyData.int)
  | [] => by simp [PV.datas]
  | n :: ns => by simp [PV.datas, PV.data, datas_ints ns]
theorem eqvAll_ints : ∀ as bs : List Int, PyData.eqvAll (as.map PyData.int) (bs.map PyData.int) = decide (as = bs)
  | [], [] => by simp [PyData.eqvAll]
  | [], b :: bs => by simp [PyData.eqvAll]
  | a :: as, [] => by simp [PyData.eqvAll]
  | a :: as, b :: bs => by
    rw [List.map_cons, List.map_cons, PyData.eqvAll, eqvAll_ints as bs, eqv_int]
    by_cases h : a = b
    · by_cases h2 : as = bs <;> simp [h, h2]
    · simp [h]
theorem sh_ints (ns : List Int) : SeqAt.shaped (.list (ns.map PyData.int)) = true := by
  obtain ⟨d, h1, h2⟩ := fit_shaped (x := .lst (ns.map PV.int)) (n := 1) (fit_ints ns) (by decide)
  have : PV.data (.lst (ns.map PV.int)) = some (.list (ns.map PyData.int)) := by simp [PV.data, datas_ints]
  rw [this] at h1
  cases h1
  exact h2
theorem eqO_ints {as bs : List Int} {S : AH} : eqO (.p (.lst (as.map PV.int))) (.p (.lst (bs.map PV.int))) S = some (.p (.bl (decide (as = bs))), S) := by
  have e : PyData.eqv (.list (as.map PyData.int)) (.list (bs.map PyData.int)) = decide (as = bs) := by rw [PyData.eqv]; exact eqvAll_ints as bs
  unfold eqO dataOf
  simp only [PV.data, datas_ints, Option.map_some, eqDat, sh_ints, and_self, if_true, e]
theorem neO_ints {as bs : List Int} {S : AH} : neO (.p (.lst (as.map PV.int))) (.p (.lst (bs.map PV.int))) S = some (.p (.bl (!decide (as = bs))), S) := by
  have e : PyData.eqv (.list (as.map PyData.int)) (.list (bs.map PyData.int)) = decide (as = bs) := by rw [PyData.eqv]; exact eqvAll_ints as bs
  unfold neO dataOf
  simp only [PV.data, datas_ints, Option.map_some, eqDat, sh_ints, and_self, if_true, e]
theorem eqv_bl (a b : Bool) : PyData.eqv (.bool a) (.bool b) = decide (a = b) := by
  cases a <;> cases b <;> simp [PyData.eqv]
@[simp] theorem eqO_bl {a b : Bool} {S : AH} : eqO (.p (.bl a)) (.p (.bl b)) S = some (.p (.bl (decide (a = b))), S) := by
  have h1 : SeqAt.shaped (.bool a) = true := rfl
  have h2 : SeqAt.shaped (.bool b) = true := rfl
  unfold eqO dataOf
  simp only [PV.data, eqDat, h1, h2, and_self, if_true, Option.map_some, eqv_bl]
theorem sorted_c {n : Nat} {ns : List Int} {S : AH} (h : S[n]? = some (.lst (ns.map PV.int))) : sortedF [.c n] S = some ((sortI ns).map PV.int) := by
  unfold sortedF
  simp only [litems_c h, intsOf_map]
theorem sorted_lst {ns : List Int} {S : AH} : sortedF [.p (.lst (ns.map PV.int))] S = some ((sortI ns).map PV.int) := by
  unfold sortedF
  simp only [litems_lst, intsOf_map]
end
end DL
namespace DL
noncomputable section
open PySem PySem.Spec PyProof.Rows L2

/-! ### a call of a value that is a def -/
abbrev FTab := List (Str × (List DV → AH → Res DV))
def dCallV (tab : FTab) (fa : Sig → AH → Res DV) (fs : Sig → AH → Res (List DV)) : Sig → AH → Res DV := fun δ S => (fa δ S).bind fun d S => match d with
  | .p (.glob n) => match tab.lookup n with
    | some F => (fs δ S).bind fun ds S => F ds S
    | none => .bad
  | _ => .bad
inductive TabOk (X : Cx) : FTab → Prop
  | nil : TabOk X []
  | cons {n : Str} {F : List DV → AH → Res DV} {tab : FTab} {k : Nat} {f : Addr} {fd : FuncData} {ps : List Str} : FnOk X.prog X.w X.K X.mg X.base (L2.CX X.prog X.w) k f fd ps (spD ⟨X.K, X.mg⟩ F) → Room k X.A → X.mg n = some (.ref f) → PySem.W.keepIn X.K (.ref f) = true → Binds X.K fd ps [] → TabOk X tab → TabOk X ((n, F) :: tab)
theorem TabOk.at {X : Cx} {n : Str} {F : List DV → AH → Res DV} : ∀ {tab : FTab}, TabOk X tab → tab.lookup n = some F → ∃ k f fd ps, FnOk X.prog X.w X.K X.mg X.base (L2.CX X.prog X.w) k f fd ps (spD ⟨X.K, X.mg⟩ F) ∧ Room k X.A ∧ X.mg n = some (.ref f) ∧ PySem.W.keepIn X.K (.ref f) = true ∧ Binds X.K fd ps []
  | _, .nil, e => by cases e
  | _, .cons (n := m) (F := G) a b c d h t, e => by
    rw [List.lookup_cons] at e
    by_cases z : n = m
    · subst z
      simp at e
      subst e
      exact ⟨_, _, _, _, a, b, c, d, h⟩
    · have z' : (n == m) = false := by simpa using z
      rw [z'] at e
      exact TabOk.at t e
section
variable {X : Cx} {E : L2.St → XK} {fn a : Expr} {es : List Expr} {pos : Pos} {fa : Sig → AH → Res DV} {fs : Sig → AH → Res (List DV)}
/-- the callee is any expression -/
theorem pe_callX {CX : CXT} {tf : TE} {t : TA} (hf : PE X fn tf) (ha : PA X (a :: es) t) (hx : ∀ σ, PassesAt CX X σ (E σ))
    (hc : eval (.Call fn (a :: es) [] pos) X.env = (eval fn X.env >>= fun v => callWith pos v [] (backTo pos (starEach (a :: es) X.env)) (backToKw pos (keywordEach [] X.env)))) (he : starEach (a :: es) X.env = (false, eval a X.env) :: starEach es X.env) (hpl : (backTo pos (starEach es X.env)).any (·.1) = false) :
    PE X (.Call fn (a :: es) [] pos) (fun σ H Q => tf σ H fun v H1 => ∃ k f fd ps sp, FnOk X.prog X.w X.K X.mg X.base CX k f fd ps sp ∧ Room k X.A ∧ PySem.W.keepIn X.K (.ref f) = true ∧ Binds X.K fd ps [] ∧ v = .ref f ∧ t σ H1 fun vs H2 => sp vs H2 Q (E σ)) := by
  refine ⟨fun pins s σ H Q I h => ?_⟩
  rw [hc]
  refine wpAny_bind (thn (hf.run pins s σ H _ I h) fun u s1 ⟨v, H1, I1, r1, k, f, fd, ps, sp, F, hr, hk, hb, ev, ht⟩ => ?_)
  subst ev
  obtain rfl : u = Value.ref f := r1
  refine PySem.W.callWith_K (h₀ := X.base) I1.ok.mod.kin hk (thn (ha.run pos pins s1 σ _ _ I1 ht) fun us s2 ⟨vs, H2, I2, r, q⟩ => ⟨I2.kIn, ?_⟩) he hpl
  exact run_fnS F hr hb (hx σ) I2 r q
theorem de_callV {tab : FTab} (g : Gd X E) (T : TabOk X tab) (hf : DE X E fn fa) (ha : DA X E (a :: es) fs)
    (hc : eval (.Call fn (a :: es) [] pos) X.env = (eval fn X.env >>= fun v => callWith pos v [] (backTo pos (starEach (a :: es) X.env)) (backToKw pos (keywordEach [] X.env))) := by rfl) (he : starEach (a :: es) X.env = (false, eval a X.env) :: starEach es X.env := by rfl) (hpl : (backTo pos (starEach es X.env)).any (·.1) = false := by rfl) :
    DE X E (.Call fn (a :: es) [] pos) (dCallV tab fa fs) := (pe_callX hf ha (fun σ => g.pass σ) hc he hpl).imp fun σ H Q ⟨as, δ, S, sr, er, w⟩ =>
  ⟨as, δ, S, sr, er, w.bind.mono fun _ _ _ _ v _ _ _ _ ⟨as1, S1, d1, _, x1, s1, r1, w1⟩ => by
    cases d1 with
    | c n => exact w1.elim
    | p x =>
      cases x with
      | glob n =>
        dsimp only at w1
        cases e : tab.lookup n with
        | none => rw [e] at w1; exact w1.elim
        | some F =>
          rw [e] at w1
          obtain ⟨k, f, fd, ps, h1, h2, h3, h4, h5⟩ := T.at e
          have ev : v = .ref f := by
            cases r1 with
            | glob m r =>
              cases h3.symm.trans (show X.mg n = _ from m)
              cases v <;> simp [L2.RelV] at r
              rw [r]
          exact ⟨k, f, fd, ps, _, h1, h2, h4, h5, ev, as1, δ, S1, s1, er.mono x1.w, w1.bind.mono fun _ _ _ _ _ _ _ _ _ ⟨as2, S2, ds, _, x2, s2, r2, w2⟩ => ⟨as2, ds, S2, s2, r2, w2⟩⟩
      | _ => exact w1.elim⟩
end
@[simp] theorem ev_callV {tab : FTab} {fa : Sig → AH → Res DV} {fs : Sig → AH → Res (List DV)} {δ : Sig} {S S1 : AH} {n : Str} {F : List DV → AH → Res DV} (h : fa δ S = .ok (.p (.glob n)) S1) (e : tab.lookup n = some F) : dCallV tab fa fs δ S = (fs δ S1).bind fun ds S => F ds S := by
  unfold dCallV
  rw [h]
  simp [Res.bind, e]
end
end DL
namespace DL
noncomputable section
open PySem PySem.Spec PyProof.Rows L2

/-! ### a tuple taken once -/
theorem tup_once (l : Addr) (its : Array Value) (n : Nat) (dd : Option Addr) (sl : Array (Option Value)) (u : Tok) :
    Meets (Builtin.«tuple.__mul__» ⟨[.ref l, .int 1 u], []⟩) (fun _ R s => s.heap.get? l = some { cls := .type "tuple", dict := dd, data := .seq its n, slots := sl } ∧ R (.ok (.ret (Value.ref l))) s) :=
  .of_wp fun prog w A R s ⟨h1, h2⟩ => by
    obtain ⟨hp, g, d, tk, os⟩ := s
    have f1 := AutoSeq1.idx_int
    have c1 : (its.isEmpty || (1 : Int) == 1) = true := by simp
    wp_walk using wpAny_loadPart' h1
    repeat (first
      | (refine wpAny_ite_false (by decide) ?_; wp_walk using wpAny_loadPart' h1)
      | (refine wpAny_ite_true (by rw [c1]) ?_; wp_walk using wpAny_loadPart' h1))
    exact ⟨_, rfl, h2⟩
theorem tup_never (l : Addr) (its : Array Value) (n : Nat) (dd : Option Addr) (sl : Array (Option Value)) (u : Tok) (h0 : its.isEmpty = false) :
    Meets (Builtin.«tuple.__mul__» ⟨[.ref l, .int 0 u], []⟩) (fun _ R s => s.heap.get? l = some { cls := .type "tuple", dict := dd, data := .seq its n, slots := sl } ∧
      R (.ok (.ret (Value.ref s.heap.objs.size))) { s with heap := s.heap.push { cls := Value.type "tuple", data := Data.seq #[] }, toks := s.toks }) :=
  .of_wp fun prog w A R s ⟨h1, h2⟩ => by
    obtain ⟨hp, g, d, tk, os⟩ := s
    have f1 := AutoSeq1.idx_int
    have c1 : (its.isEmpty || (0 : Int) == 1) = false := by rw [h0]; rfl
    wp_walk using wpAny_loadPart' h1
    repeat (first
      | (refine wpAny_ite_false (by decide) ?_; wp_walk using wpAny_loadPart' h1)
      | (refine wpAny_ite_false (by rw [c1]; decide) ?_; wp_walk using wpAny_loadPart' h1)
      | (refine wpAny_ite_true (by decide) ?_; wp_walk using wpAny_loadPart' h1)
      | (refine wpAny_ite_true (by simp) ?_; wp_walk using wpAny_loadPart' h1))
    exact ⟨_, rfl, h2⟩
section
variable {X : Cx}
theorem op_once : OpR X (binaryOp .Mult) (fun x y H Q => ∃ l xs, x = V.ref l ∧ y = V.int 1 ∧ SqT X.K H l xs ∧ Q (V.ref l) H) := by
  intro pins s σ H x y v u Q I rx ry ⟨l, xs, ex, ey, hT, q⟩
  subst ex ey
  cases rx
  obtain ⟨t, rfl⟩ := ry
  obtain ⟨its, r, ⟨⟨cls, dd, data, sl⟩, ho, hc, n, hd⟩, hs⟩ := I.tuple hT
  simp only at hc hd
  subst hc hd
  exact wpAny_binaryOp_repeat_ref (T := "tuple") (U := "int") (by decide) ⟨_, ho, rfl⟩ (fun s' => typeIs_int s' 1 t) noFill_tuple_mul F.fills_int_mul F.slot_int_rmul repeat_tuple F.slot_int_index.lookup
    (call_meets F.slot_int_rmul (typeIs_int s 1 t) F.entry_int_rmul (F.args_int_rmul_2 _ _) (int_rmul_tuple 1 t l its.toArray n dd sl)
      ⟨ho, rfl, ⟨_, ho, rfl⟩, call_meets F.slot_tuple_mul ⟨_, ho, rfl⟩ F.entry_tuple_mul (F.args_tuple_mul_2 _ _) (tup_once l its.toArray n dd sl t) ⟨ho, .ref l, H, I, rfl, q⟩⟩)
theorem op_never : OpR X (binaryOp .Mult) (fun x y H Q => ∃ l xs, x = V.ref l ∧ y = V.int 0 ∧ SqT X.K H l xs ∧ xs ≠ [] ∧ NewT H Q []) := by
  intro pins s σ H x y v u Q I rx ry ⟨l, xs, ex, ey, hT, hne, q⟩
  subst ex ey
  cases rx
  obtain ⟨t, rfl⟩ := ry
  obtain ⟨its, r, ⟨⟨cls, dd, data, sl⟩, ho, hc, n, hd⟩, hs⟩ := I.tuple hT
  simp only at hc hd
  subst hc hd
  have hi : its.toArray.isEmpty = false := by
    cases r with
    | nil => exact absurd rfl hne
    | cons _ _ => rfl
  exact wpAny_binaryOp_repeat_ref (T := "tuple") (U := "int") (by decide) ⟨_, ho, rfl⟩ (fun s' => typeIs_int s' 0 t) noFill_tuple_mul F.fills_int_mul F.slot_int_rmul repeat_tuple F.slot_int_index.lookup
    (call_meets F.slot_int_rmul (typeIs_int s 0 t) F.entry_int_rmul (F.args_int_rmul_2 _ _) (int_rmul_tuple 0 t l its.toArray n dd sl)
      ⟨ho, rfl, ⟨_, ho, rfl⟩, call_meets F.slot_tuple_mul ⟨_, ho, rfl⟩ F.entry_tuple_mul (F.args_tuple_mul_2 _ _) (tup_never l its.toArray n dd sl t hi)
        ⟨ho, lay_tup (its := []) I (by simp) .nil q⟩⟩)
/-- a product, a tuple taken once or never too -/
def mulO1 : Op2 := fun a b S => match a, b with
  | .p (.tup xs), .p (.int k) => if k = 1 then some (.p (.tup xs), S) else if k = 0 ∧ xs ≠ [] then some (.p (.tup []), S) else mulO a b S
  | .p (.lst xs), .p (.int k) => if 0 ≤ k ∧ k ≤ 1000 ∧ xs.length ≤ 1000 then some (.p (.lst (List.replicate k.toNat xs).flatten), S) else none
  | _, _ => mulO a b S
theorem ow_mul1 : OpR X (binaryOp .Mult) (rO (wd X) mulO1) := by
  intro pins s σ H x y v u Q I rx ry h
  obtain ⟨as, S, d1, d2, sr, r1, r2, w⟩ := h
  unfold mulO1 at w
  split at w
  · split at w
    · rename_i z
      subst z
      cases r2
      cases r1 with
      | tup h1 t1 => exact op_once pins s σ H _ _ v u Q I rx ry ⟨_, _, rfl, rfl, h1.sq, w.here sr (.tup h1 t1)⟩
    split at w
    · rename_i z
      obtain ⟨rfl, z⟩ := z
      cases r2
      cases r1 with
      | tup h1 t1 =>
        refine op_never pins s σ H _ _ v u Q I rx ry ⟨_, _, rfl, rfl, h1.sq, fun e => ?_, w.tup sr (by simp) .nil⟩
        subst e
        cases t1
        exact z rfl
    · exact ow_mul pins s σ H x y v u Q I rx ry ⟨as, S, _, _, sr, r1, r2, w⟩
  · split at w
    · rename_i z
      obtain ⟨z1, z2, z3⟩ := z
      cases r2
      cases r1 with
      | lst h1 t1 =>
        have hl := t1.length
        refine op_rep pins s σ H _ _ v u Q I rx ry ⟨_, _, _, rfl, rfl, h1.2.1, by omega, by omega, ?_, fun p n => w.lst sr ?_ (t1.rep _) n⟩
        · rw [sizeLine_eq]
          refine Nat.le_trans (m := 1000 * 1000) (Nat.mul_le_mul ?_ ?_) (by decide)
          · omega
          · omega
        rw [PyProof.Rows.lm_len_rep_flat, sizeLine_eq]
        refine Nat.le_trans (m := 1000 * 1000) (Nat.mul_le_mul ?_ ?_) (by decide)
        · omega
        · omega
    · exact w.elim
  · exact ow_mul pins s σ H x y v u Q I rx ry ⟨as, S, _, _, sr, r1, r2, w⟩
end
theorem mulO1_int {i j : Int} {S : AH} (h : mulOk i j) : mulO1 (.p (.int i)) (.p (.int j)) S = some (.p (.int (i * j)), S) := mulO_int h
theorem mulO1_tup {xs : List PV} {k : Int} {S : AH} (h : xs ≠ [] ∧ 0 ≤ k ∧ k ≤ 1000 ∧ xs.length ≤ 1000) : mulO1 (.p (.tup xs)) (.p (.int k)) S = some (.p (.tup (List.replicate k.toNat xs).flatten), S) := by
  show (if k = 1 then _ else if _ then _ else _) = _
  split
  · rename_i z
    subst z
    simp
  · split
    · rename_i z
      obtain ⟨rfl, _⟩ := z
      simp
    · rename_i z1 z2
      exact mulO_tup ⟨h.1, by have : k ≠ 0 := fun e => z2 ⟨e, h.1⟩; omega, h.2.2⟩
end
end DL
namespace DL
noncomputable section
open PySem PySem.Spec PyProof.Rows L2

/-! ### an own exception whose __init__ says super().__init__(x); self.x = x -/
/-- the body of that __init__ -/
def InitBody (x : Str) (b : List Stmt) : Prop := ∃ (p0 p1 p2 p3 p4 p5 p6 p7 p8 p9 : Pos), (p2.endLine == p4.line) = true ∧ b = [.Expr (.Call (.Attribute (.Call (.Name "super" p0) [] [] p1) "__init__" p2) [.Name x p3] [] p4) p5, .Assign [.Attribute (.Name "self" p6) x p7] (.Name x p8) p9]
structure SupK (P : Program) (K : PySem.W.Frag) (x : Str) (C fI cda cc : Addr) (fd : FuncData) : Prop where
  fn : ∃ name qual params body scope dV kV doc pm an ct oc od osl, fd = PySem.W.ksFn name qual params body scope dV kV doc pm an (.ref cda) ct cc ∧ K.lookup fI = some ⟨oc, od, .func fd, osl⟩ ∧ InitBody x body ∧ PySem.W.codeIn K (.ref cda) qual = true ∧
    scope.names.lookup ("super" : Str) = some .globalImplicit ∧ scope.names.lookup ("__class__" : Str) = some .free ∧ scope.names.lookup ("self" : Str) = some .local ∧ scope.names.lookup x = some .local ∧ scope.kind = .function ∧ (∀ y ∈ scope.names, y.2 ≠ .cell) ∧ scope.isCoroutine = false ∧ scope.isGenerator = false ∧
    ∃ ar, (params.posonlyargs ++ params.args).head? = some ar ∧ ar.arg = "self"
  code : ∃ cl d vs sl, K.lookup cda = some ⟨cl, d, .fields vs, sl⟩ ∧ ∃ file t, vs[2]? = some (.str file t) ∧ ((P.main.file : Str) == file) = true
  cell : ∃ cl d sl, K.lookup cc = some ⟨cl, d, .cell (some (.ref C)), sl⟩
  cls : OexC K C
  mro : PySem.W.mroIn K C (.ref C) = some true
  sup : PySem.W.ks_superIn K C C "__init__" = some (some (.builtin "ValueError.__init__"))
  ve : PySem.W.subIn K (.ref C) (.type "ValueError") = some true
  any : PySem.W.nsIn K cStatics "thirdparty.any" = some none
  fld : PySem.W.findIn K (.ref C) x = some none
  nosup : PySem.W.nsIn K mainGlobals "super" = some none
  top : (P.main.scope.names.lookup ("super" : Str)).isSome = false
  xs : x ≠ ("self" : Str)
  ini : PySem.W.excInitIn K C [.type "ValueError", .type "Exception", .type "BaseException", .type "object"] "ValueError.__new__" = true
  xd : (x == ("__debug__" : Str)) = false
theorem call_eq {o : Expr} {m : Str} {a : Expr} {p2 p4 : Pos} {env : Env} (hp : (p2.endLine == p4.line) = true) (hs : starEach [a] env = [(false, eval a env)]) : eval (.Call (.Attribute o m p2) [a] [] p4) env = (do
    let ov ← attributeBase o m env (eval o env)
    standAt p2.atName
    let (f, first) ← holding [ov] (getMethod ov m (do return (← importBound o env).getD true))
    callWith p4 f first (backTo p4 (starEach [a] env)) []) := by
  have e1 : eval (.Call (.Attribute o m p2) [a] [] p4) env = (attributeBase o m env (eval o env) >>= fun ov => standAt p2.atName >>= fun _ => methodCall o m p2 p4 env ov 1 (backTo p4 (starEach [a] env)) []) := rfl
  have e2 : methodCallForm 1 (backTo p4 (starEach [a] env)) [] = true := by rw [hs]; rfl
  have e3 : methodCallPos true o env p2 p4 = pure p4 := by
    unfold methodCallPos
    rw [hp]
    rfl
  rw [e1]
  unfold methodCall
  rw [e2, e3]
  rfl
section
variable {P : Program} {w : World} {K : PySem.W.Frag} {A : Around} {hp : Heap} {g : Array GenState} {d : Drawn} {t : Nat} {os : OsState} {mg mb : Str → Option Value} {x : Str} {C fI cda cc a t0 : Addr} {fd : FuncData} {u : Value} {R : Result → Shared → Prop}
theorem sup_run (T : SupK P K x C fI cda cc fd) (hr : A.depth < recursionLimit) (X : K.In hp) (na : K.lookup a = none) (G : hp.Ns mainGlobals mg) (B : hp.Ns builtinsNs mb) (hb : mb "super" = bootBuiltins "super") (lim : hp.NoLimit)
    {args : Args} (hbind : BindsTo ⟨hp, g, d, t, os⟩ fd args [("self", .ref a), (x, u)]) (ha : hp.get? a = some ({ cls := .ref C, dict := none, data := .fields #[.ref t0, .none, .none, .none, .bool false, .none] } : Obj))
    (hq : ∀ h' tk' dx t1, (∀ b o, b ≠ a → hp.get? b = some o → h'.get? b = some o) → hp.objs.size ≤ dx → h'.get? a = some ({ cls := .ref C, dict := some dx, data := .fields #[.ref t1, .none, .none, .none, .bool false, .none] } : Obj) →
      h'.Ns1 dx (fun y => if y = x then some u else none) → R (.ok (.ret .none)) ⟨h', g, d, tk', os⟩) :
    codeAny (model P w) A (.call (.ref fI) args) R ⟨hp, g, d, t, os⟩ := by
  obtain ⟨name, qual, params, body, scope, dV, kV, doc, pm, an, ct, oc, od, osl, efd, hlk, hbody, hcd, sc1, sc2, sc3, sc4, sck, scc, sco, scg, ar, har, eself⟩ := T.fn
  obtain ⟨ccl, cdd, vs, ccs, hcode, file, tf, hvs, hfile⟩ := T.code
  obtain ⟨cl, cld, csl, hcell⟩ := T.cell
  obtain ⟨p0, p1, p2, p3, p4, p5, p6, p7, p8, p9, hps, eb⟩ := hbody
  have ho := X _ _ hlk
  subst efd
  refine PySem.ks_codeAny_call_defAt (body := body) (binds := [("self", .ref a), (x, u)]) hr ho rfl lim (PySem.W.codeRec_of X hcd) rfl hbind scc (fun y hy => ?_) (fun h₁ hns hk => ?_) sco scg sck
  · simp only [List.mem_cons, List.not_mem_nil, or_false] at hy
    rcases hy with rfl | rfl
    · exact sc3
    · exact sc4
  have X1 : K.In h₁ := X.keeps hk
  have hL : hp.objs.size ≤ hp.objs.size := Nat.le_refl _
  obtain ⟨oL, _, _, hoL, _⟩ := id hns
  subst eb
  have ha1 := hk _ _ ha
  obtain ⟨nm, q, N, bs, bm, sn, sub, ab, col, dd, k0, k1, k2, k3, k5, hC, hbm⟩ := T.cls.cls
  have hcl : PySem.W.clsIn K C = some { name := nm, bases := bs, mro := .ref C :: bm, ns := N, qualname := q, hasDict := true, slotNames := sn, subclasses := sub, abstract := ab, collection := col, hasDel := false } := by
    unfold PySem.W.clsIn
    rw [hC] <;> rfl
  refine PySem.ks_wpAt_execs_cons (PySem.ks_wpAt_Expr_any (PySem.ks_wpAt_MethodCall ?_ (call_eq hps rfl)) (by unfold interactive; show (scope.kind == .module && _) = false; rw [sck]; rfl))
  refine PySem.ks_wpAt_super_base (f := fI) (cc := cda) sc1 sc2 rfl rfl (X1 _ _ hlk) rfl har rfl (X1 _ _ hcode) rfl hvs hfile T.top ?_
  refine PySem.W.ks_loadName_global sck sc1 (PySem.Calls.loadGlobal_builtin (G.keeps hk) (PySem.W.mg_none_of X G T.nosup) (B.keeps hk) (hb.trans (by kernel_rfl)) ⟨rfl, ?_⟩)
  refine wpAny_loadName_free sck sc2 rfl ⟨_, X1 _ _ hcell, rfl⟩ ?_
  have l1 : ([(("self" : Str), Value.ref a), (x, u)].reverse.lookup ar.arg) = some (.ref a) := by
    rw [eself]
    have : (("self" : Str) == x) = false := by simpa using fun e => T.xs e.symm
    simp [List.lookup, this]
  have l2 : ([(("self" : Str), Value.ref a), (x, u)].reverse.lookup x) = some u := by simp [List.lookup]
  refine wpAny_loadName_local sck (by rw [eself]; exact sc3) hns l1 ?_
  refine PySem.ks_wpAny_isType_cls (X1 _ _ hC) rfl ⟨rfl, ?_⟩
  refine PySem.ks_wpAny_call_super (X1 _ _ hC) rfl ha1 rfl (fun c e => by cases e) (PySem.W.looks_mroIn X1 T.mro) (fun h2 e2 k2' => ?_)
  have X2 : K.In h2 := X1.keeps k2'
  have sup := T.sup
  unfold PySem.W.ks_superIn at sup
  rw [hcl] at sup
  have sup : PySem.W.alongIn K "__init__" (((Value.ref C :: bm).dropWhile (· != .ref C)).drop 1) = some (some (.builtin "ValueError.__init__")) := sup
  have hma : h2.get? a = some ({ cls := .ref C, dict := none, data := .fields #[.ref t0, .none, .none, .none, .bool false, .none] } : Obj) := k2' _ _ ha1
  have I2 : PySem.W.InstAt h2 a { cls := .ref C, dict := none, data := .fields #[.ref t0, .none, .none, .none, .bool false, .none] } C none := ⟨hma, rfl, rfl, trivial⟩
  have aC : a ≠ C := fun e => by
    rw [e, hC] at na
    cases na
  refine PySem.W.kxs_getMethod PySem.W.kxs_ValueError e2 (PySem.W.looks_opaque X2 T.any) (l₀ := .ref C :: bm) ((PySem.W.looks_clsIn X2 hcl).andThen .now) rfl X2 sup (I2.type.andThen (PySem.W.looks_subIn X2 T.ve)) aC rfl ?_
  obtain ⟨h3, e3⟩ : ∃ h3, h3 = h2.push (PySem.W.kxs_mw "ValueError.__init__" a) := ⟨_, rfl⟩
  have k3 : ∀ b o, h2.get? b = some o → h3.get? b = some o := fun b o e => by rw [e3]; exact Heap.get?_push_of_some _ e
  have up : ∀ b o, hp.get? b = some o → h3.get? b = some o := fun b o e => k3 _ _ (k2' _ _ (hk _ _ e))
  have m3 : h3.get? h2.objs.size = some (PySem.W.kxs_mw "ValueError.__init__" a) := by rw [e3]; exact Heap.get?_push_at rfl rfl
  have lt2 : hp.objs.size < h2.objs.size := Heap.lt_size (k2' _ _ hoL)
  have alt : a < hp.objs.size := Heap.lt_size ha
  rw [← e3]
  have F3 : Fr (PySem.W.hideAll hp [a]) hp.objs.size h3 (fun y => [(("self" : Str), Value.ref a), (x, u)].reverse.lookup y) := ⟨(hns.keeps k2').keeps k3, fun b o e => up _ _ (PySem.W.of_hideAll _ e), Nat.le_of_eq (PySem.W.hideAll_size _ _)⟩
  have N3 : News (PySem.W.hideAll hp [a]) hp.objs.size h3 [(h2.objs.size, PySem.W.kxs_mw "ValueError.__init__" a), (a, PySem.W.excObj C t0 none .none)] := fun q hq => by
    simp only [List.mem_cons, List.not_mem_nil, or_false] at hq
    rcases hq with rfl | rfl
    · refine ⟨m3, Nat.ne_of_gt lt2, ?_⟩
      cases z : (PySem.W.hideAll hp [a]).get? h2.objs.size with
      | none => rfl
      | some o => exact absurd (Heap.lt_size (PySem.W.of_hideAll _ z)) (Nat.not_lt.mpr (Nat.le_of_lt lt2))
    · exact ⟨k3 _ _ hma, Nat.ne_of_lt alt, PySem.W.hideAll_none _ List.mem_cons_self⟩
  have X0 : K.In (PySem.W.hideAll hp [a]) := fun b o e => PySem.W.hideAll_get _ (X _ _ e) (fun z => by
    rcases List.mem_singleton.mp z with rfl
    rw [na] at e
    cases e)
  have xns : h3.Ns hp.objs.size (fun y => [(("self" : Str), Value.ref a), (x, u)].reverse.lookup y) := F3.ns
  refine PySem.W.kxs_callWith1 N3 List.mem_cons_self ?_ rfl rfl
  show wpAny _ _ (spliced ((false, eval (.Name x p3) _) :: [])) _ _ _
  refine Calls.spliced_cons (wpAny_Name (wpAny_loadName_local sck sc4 xns l2 (Calls.spliced_nil ?_)) T.xd)
  refine ⟨PySem.W.kxs_at N3 List.mem_cons_self, ?_⟩
  refine PySem.W.kxs_call F3 X0 N3 F.excBase_ValueError T.ini List.mem_cons_self (.tail (Nat.ne_of_gt (Nat.lt_trans alt lt2)) (.head (by simp))) (by show 1 ≤ sizeLine; rw [sizeLine_eq]; omega) (fun t4 h4 F4 N4 lt4 => ?_)
  have X4 : K.In h4 := X0.keeps F4.keep
  have hx4 : h4.get? a = some (PySem.W.excObj C t4 none .none) := (N4 (a, _) (by simp)).1
  have hns4 : h4.Ns hp.objs.size (fun y => [(("self" : Str), Value.ref a), (x, u)].reverse.lookup y) := F4.ns
  refine PySem.ks_wpAt_execs_cons (wpAt_of_wpAny (plainObj_wpAny_Assign_Attribute (wpAny_Name (wpAny_loadName_local sck sc4 hns4 l2 ?_) T.xd) rfl))
  have l1' : ([(("self" : Str), Value.ref a), (x, u)].reverse.lookup ("self" : Str)) = some (.ref a) := by rw [eself] at l1; exact l1
  refine wpAny_Name (wpAny_loadName_local sck sc3 hns4 l1' ?_) (by decide)
  refine PySem.W.set_plain X4 (ox := PySem.W.excObj C t4 none .none) (od := none) ⟨hx4, rfl, rfl, trivial⟩ T.cls.sa ?_
  refine PySem.HandSPX.exc_osa X4 hx4 hcl (show PySem.HandSPX.refsVE (.ref C :: bm) = true from hbm) rfl T.fld (fun h5 tk5 dx k5 dn dne hx5 hn5 => ?_)
  refine wpAt_of_wpAny (wpAny_pure ?_)
  obtain ⟨oL4, _, _, hoL4, _⟩ := id hns4
  exact hq h5 _ dx t4 (fun b o hb e => k5 b o hb (F4.keep _ _ (PySem.W.hideAll_get _ e (fun z => hb (List.mem_singleton.mp z))))) (Nat.le_trans (Nat.le_of_lt (Heap.lt_size hoL4)) dn) hx5 hn5
end
/-- what that __init__ promises -/
def spI (x : Str) (C : Addr) : Sp := fun vs H Q _ => ∃ (a : Addr) (y : V), vs = [.ref a, y] ∧ H a = some (exo a C none) ∧ ∀ dx, H dx = none → dx ≠ a → Q .non (upd (upd H dx (exd dx [(x, y)])) a (exo a C (some dx)))
theorem sup_un {fs : List Addr} {H : Hp} {h h' : Heap} {a C dx : Addr} {x : Str} {y : V} {o : Obj} (e : H a = some (exo a C none)) (k : ∀ b o, b ≠ a → h.get? b = some o → h'.get? b = some o) (dn : h.objs.size ≤ dx) (n : H dx = none) (ho : h'.get? a = some o) :
    Un fs [] H (upd (upd H dx (exd dx [(x, y)])) a (exo a C (some dx))) h h' := by
  have na : ∀ {b}, H b = none → b ≠ a := fun m z => by rw [z, e] at m; cases m
  have old : ∀ {b : Addr} {z : HO}, H b = some z → z ≠ exo a C none → upd (upd H dx (exd dx [(x, y)])) a (exo a C (some dx)) b = some z := fun {b z} q d => by
    have h1 : b ≠ a := fun w => by rw [w, e] at q; cases q; exact d rfl
    have h2 : b ≠ dx := fun w => by rw [w, n] at q; cases q
    rw [upd_ne h1, upd_ne h2, q]
  exact ⟨fun b o q m _ _ => k b o (na m) q, fun b o q m _ _ => ⟨o.slots, k b o (na m) q⟩,
    fun b o q m _ => by
      have h2 : b ≠ dx := fun w => absurd (Heap.lt_size q) (by rw [w]; exact Nat.not_lt.mpr dn)
      rw [upd_ne (na m), upd_ne h2, m],
    fun b o q _ => by
      by_cases z : b = a
      · subst z
        exact ⟨_, ho⟩
      · exact ⟨o, k b o z q⟩,
    fun b xs q => old q fun z => exo_tup z.symm, fun b o u q => old q fun z => exo_frz z.symm, fun b ps q => ⟨#[], by rw [old q fun z => exo_tbl z.symm]; simp⟩⟩
theorem sup_hok {P : Program} {w : World} {H : Hp} {h h' : Heap} {a C dx t1 : Addr} {x : Str} {y : V} {u : Value} (ok : HOk P w H h) (e : H a = some (exo a C none)) (k : ∀ b o, b ≠ a → h.get? b = some o → h'.get? b = some o) (n : H dx = none)
    (ho : h'.get? a = some ({ cls := .ref C, dict := some dx, data := .fields #[.ref t1, .none, .none, .none, .bool false, .none] } : Obj)) (hn : h'.Ns1 dx (fun z => if z = x then some u else none)) (ry : L2.RelV y u) :
    HOk P w (upd (upd H dx (exd dx [(x, y)])) a (exo a C (some dx))) h' := by
  intro b o q
  by_cases h1 : b = a
  · subst h1
    rw [upd_same] at q
    cases q
    exact exo_ok ho
  rw [upd_ne h1] at q
  by_cases h2 : b = dx
  · subst h2
    rw [upd_same] at q
    cases q
    exact exd_ok hn (relO_put (fs := []) ry fun _ => trivial)
  rw [upd_ne h2] at q
  have old : ∀ {c : Addr} {z : HO}, H c = some z → z ≠ exo a C none → c ≠ a ∧ upd (upd H dx (exd dx [(x, y)])) a (exo a C (some dx)) c = some z := fun {c z} q d => by
    have g1 : c ≠ a := fun w => by rw [w, e] at q; cases q; exact d rfl
    have g2 : c ≠ dx := fun w => by rw [w, n] at q; cases q
    exact ⟨g1, by rw [upd_ne g1, upd_ne g2, q]⟩
  refine (ok b o q).stay (fun c v hc z => k c v ?_ z) (fun c hc => (old hc fun z => exo_own z.symm).2) (fun c xs hc => (old hc fun z => exo_tup z.symm).2)
  rcases hc with hc | hc
  · rw [hc]; exact h1
  · exact (old hc fun z => exo_own z.symm).1
section
variable {P : Program} {w : World} {K : PySem.W.Frag} {mg : Str → Option Value} {base : Heap} {x : Str} {C fI cda cc : Addr} {fd : FuncData} {CX : CXT}
theorem sup_ok (T : SupK P K x C fI cda cc fd) : FnOk P w K mg base CX 1 fI fd ["self", x] (spI x C) := by
  refine ⟨fun vs H Q E ⟨a, y, e, _⟩ => by rw [e]; rfl, fun A outer s H args us vs Q E hr e0 hb hv hsp => ?_⟩
  obtain ⟨a, y, rfl, ea, q⟩ := hsp
  cases hv with
  | cons r1 hv =>
  cases hv with
  | cons r2 hv =>
  cases hv
  rename_i u1 u
  obtain rfl : u1 = Value.ref a := r1
  have up := fun b o e => (e0.bs b o e).1
  have X : K.In s.heap := e0.mod.kin.keeps up
  have na : K.lookup a = none := by
    cases z : K.lookup a with
    | none => rfl
    | some o =>
      have := (e0.bs _ _ (e0.mod.kin _ _ z)).2
      rw [ea] at this
      cases this
  obtain ⟨mb, B, hmb⟩ := e0.mod.blt
  obtain ⟨t0, ha⟩ := exo_at e0.hok ea
  obtain ⟨hp, g, d, t, os⟩ := s
  refine sup_run T hr.depth X na (e0.mod.glob.keeps up) (B.keeps up) (hmb _ (by decide)) (e0.mod.nolimit.keeps up) hb ha fun h' tk' dx t1 k dn hx hn => ?_
  have nd := e0.hok.fresh dn
  have ne : dx ≠ a := fun z => absurd (Heap.lt_size ha) (by rw [← z]; exact Nat.not_lt.mpr dn)
  exact ⟨.non, _, rfl, e0.bare, sup_un ea k dn nd hx, sup_hok e0.hok ea k nd hx hn r2, rfl, q dx nd ne⟩
end
end
end DL
namespace DL
noncomputable section
open PySem PySem.Spec PyProof.Rows L2

/-! ### raise C(e), C's __init__ as in D19 -/
def dRaiseF (c x : Str) (fa : Sig → AH → Res DV) : Sig → AH → Out := fun δ S => (fa δ S).out δ fun d S1 => match d with
  | .p y => .exc c [(x, y)] δ S1
  | .c _ => .bad
section
variable {X : Cx} {E : L2.St → XK} {e : Expr} {pos p2 pos' : Pos} {c x : Str} {C fI cda cc : Addr} {fd : FuncData} {fa : Sig → AH → Res DV}
theorem ds_raiseF (g : Gd X E) (T : SupK X.prog X.K x C fI cda cc fd) (iC : PySem.W.findIn X.K (.ref C) "__init__" = some (some (.ref fI))) (tI : PySem.W.typeIn X.K (.ref fI) = some (.type "function")) (hr : Room 2 X.A) (hb : Binds X.K fd ["self", x] []) (hg : Gl X c) (hm : X.mg c = some (.ref C))
    (he : DE X E e fa) (hdb : (c == ("__debug__" : Str)) = false := by decide) (hs : starEach [e] X.env = [(false, eval e X.env)] := by rfl) : DS X E (.Raise (some (.Call (.Name c p2) [e] [] pos')) none pos) (dRaiseF c x fa) := by
  have mk := pmk_oex (CX := fun _ _ _ _ _ _ => False) (p := p2) (pos := pos') T.cls iC tI (sup_ok (P := X.prog) (w := X.w) (mg := X.mg) (base := X.base) T) hr hb .nil (fun _ _ _ _ _ _ _ z => z.elim) hg hm (da_cons he da_nil hs) hdb hs rfl
  refine (ps_raise g.calm g.tk mk).imp fun D σ H ⟨as, δ, S, sr, er, w⟩ => ?_
  refine ⟨as, δ, S, sr, er, ?_⟩
  unfold dRaiseF at w
  have ed : dCons fa dNil δ S = (fa δ S).bind fun d S1 => .ok [d] S1 := rfl
  rw [ed]
  cases ef : fa δ S with
  | bad => rw [ef] at w; exact w.elim
  | exc n p S1 => rw [ef] at w; exact fun as' H' cls dd x1 s1 r1 => w as' H' σ cls dd x1 s1 (er.mono x1.w) r1
  | ok d S1 =>
    rw [ef] at w
    intro as' H' vs x1 s1 r1
    cases r1 with
    | cons r r0 =>
    cases r0
    cases d with
    | c n => exact w.elim
    | p y =>
    rename_i v
    refine ⟨by simp, fun a na => ⟨a, v, rfl, upd_same, fun dx ndx ne => ⟨rfl, dx, [(x, v)], upd_same, by rw [upd_ne ne, upd_same], by rw [upd_ne ne] at ndx; exact ndx, ?_⟩⟩⟩
    have n1 : H' dx = none := by rw [upd_ne ne] at ndx; exact ndx
    have eh : upd (L2.del (upd (upd (upd H' a (exo a C none)) dx (exd dx [(x, v)])) a (exo a C (some dx))) a) dx (.xd [(x, v)]) = upd H' dx (.xd [(x, v)]) := by
      funext b
      by_cases h1 : b = dx
      · rw [h1, upd_same, upd_same]
      · rw [upd_ne h1, upd_ne h1]
        by_cases h2 : b = a
        · rw [h2, L2.del_same, na]
        · rw [L2.del_ne h2, upd_ne h2, upd_ne h1, upd_ne h2]
    rw [eh]
    have x2 := ext_new (o := .xd [(x, v)]) s1 n1
    exact w as' _ σ (.ref C) (some dx) (x1.trans x2) (s1.new n1) (er.mono (x1.trans x2).w) ⟨hm, (fun z => by cases z), fun _ => ⟨dx, [(x, v)], rfl, s1.fresh n1, upd_same, .cons ⟨rfl, r.mono x2.w⟩ .nil⟩⟩
end
/-! ### try with several clauses, some of them with a name -/
abbrev Hnd := Value × Option Nat × (Addr → Value → Option Addr → TS)
def endsAt (D : Ends) (i : Nat) : Ends := { nx := fun τ J => D.nx (τ.set i none) J, rt := D.rt, bk := fun τ J => D.bk (τ.set i none) J, ct := fun τ J => D.ct (τ.set i none) J }
def wMix (K : PySem.W.Frag) (Wout : WX) (D : Ends) : List Hnd → WX
  | [] => Wout
  | (c, o, ts) :: r => fun cls d σ H => ∃ b, PySem.W.exmOne K cls c = some b ∧ (b = true → ∀ a, H a = none → match o with
      | none => ts a cls d D σ H
      | some i => ts a cls d (endsAt D i) (σ.set i (some (.ref a))) H) ∧ (b = false → wMix K Wout D r cls d σ H)
inductive HdsM (X : Cx) : List ExceptHandler → List Hnd → Prop
  | nil : HdsM X [] []
  | plain {x : Str} {c : Value} {ts : Addr → Value → Option Addr → TS} {b0 : Stmt} {bs : List Stmt} {np q : Pos} {hds : List ExceptHandler} {l : List Hnd} : Names X x c →
      (∀ (a : Addr) (oe : Obj) (cls : Value) (d : Option Addr) (pn : List (Addr × Obj)), Zc cls d oe → (∃ vs, oe.data = .fields vs) → PSs (X.suite a ((a, oe) :: pn)) (b0 :: bs) (ts a cls d)) → HdsM X hds l →
      HdsM X (.ExceptHandler (some (.Name x np)) none (b0 :: bs) q :: hds) ((c, none, ts) :: l)
  | named {x n : Str} {i : Nat} {c : Value} {ts : Addr → Value → Option Addr → TS} {b0 : Stmt} {bs : List Stmt} {np q : Pos} {hds : List ExceptHandler} {l : List Hnd} : Names X x c → X.N[i]? = some n → X.env.kindOf n = some .local →
      (∀ (a : Addr) (oe : Obj) (cls : Value) (d : Option Addr) (pn : List (Addr × Obj)), Zc cls d oe → (∃ vs, oe.data = .fields vs) → PSs (X.suite a ((a, oe) :: pn)) (b0 :: bs) (ts a cls d)) → HdsM X hds l →
      HdsM X (.ExceptHandler (some (.Name x np)) (some n) (b0 :: bs) q :: hds) ((c, some i, ts) :: l)
theorem off_frames {B h : Heap} {st : List Env} {a : Addr} {o : Obj} {vs : Array Value} (ff : h.FunFrames B st) (e : h.get? a = some o) (dd : o.data = .fields vs) : a ∉ frs st := fun m => by
  obtain ⟨_, u, eu, no⟩ := ff.mem m
  cases e.symm.trans eu
  exact no _ dd
section
variable {X : Cx} {body : List Stmt} {h0 : ExceptHandler} {hds : List ExceptHandler} {l : List Hnd} {pos : Pos} {tb : WX → TS} {Wout : WX}
theorem ps_try_mix (hs : X.stack = X.env :: X.outer) (hf : X.env.frame = some X.env.locals) (hN : X.N.Nodup) (tk : Takes X Wout)
    (hb : ∀ (W : WX) (pn : List (Addr × Obj)) (xe : Value → Shared → Prop), Takes (X.tr pn xe) W → PassesOwn (model X.prog X.w) X.A X.env xe → PSs (X.tr pn xe) body (tb W)) (hh : HdsM X (h0 :: hds) l) :
    PS X (.Try body (h0 :: hds) [] [] pos) (fun D σ H => tb (wMix X.K Wout D l) D σ H) := by
  constructor
  intro pins s σ H D I hin
  have ok := I.ok
  have fr0 : X.A.frames = some (X.env :: X.outer) := ok.frames.trans (congrArg some hs)
  have run := (hb (wMix X.K Wout D l) (X.pn ++ pins) (fun e s1 => wpAny (model X.prog X.w) X.A (noteFrame e X.env) (fun _ s2 => wpAny (model X.prog X.w) X.A (setFlight e none) (fun _ s3 => wpAny (model X.prog X.w) X.A (handleBy e X.env (h0 :: hds)) (SP X pins D) X.xe s3) X.xe s2) X.xe s1) ?caught PassesOwn.looking).run [] s σ H D (I.toTry _) hin
  case caught =>
    rintro u t1 ⟨a, B, sI, pins', τ, J, cls, d, rfl, i1, nb, up, sky, na, os, ag, wish⟩
    have i0 : Inv X pins τ J sI := i1.ofTry ok
    rw [show (X.tr (X.pn ++ pins) _).stack = X.env :: X.outer from hs] at sky
    refine Sky.land Zc.steady fr0 hf sky (fun g3 fly sub3 => ?_)
    have i3 : Inv X pins τ J { t1 with heap := g3 } := i0.landed nb fly.1 (up.trans sub3) os ag
    obtain ⟨o3, v3, e3, z3, d3⟩ := fly.there
    have off := off_frames fly.2.2.1 e3 d3
    have ne1 : a ≠ X.env.locals := fun z => off (List.mem_filterMap.mpr ⟨X.env, by simp, z ▸ hf⟩)
    have ne2 : a ∉ X.fs := fun z => by
      obtain ⟨v, m, q⟩ := List.mem_filterMap.mp z
      exact off (List.mem_filterMap.mpr ⟨v, by simp [m], q⟩)
    have sui := i3.suite e3 d3 na ne1 ne2
    have each : ∀ {ks : List ExceptHandler} {m : List Hnd}, HdsM X ks m → wMix X.K Wout D m cls d τ J → wpAny (model X.prog X.w) X.A (handleBy (.ref a) X.env ks) (SP X pins D) X.xe { t1 with heap := g3 } := by
      intro ks m hk
      have tested : ∀ {x : Str} {c : Value} {np : Pos} {Q : Value → Shared → Prop} {E : Value → Shared → Prop}, Names X x c → Q c { t1 with heap := g3 } → wpAny (model X.prog X.w) (X.A.mark (some (.ref a))) (eval (.Name x np) X.env) Q E { t1 with heap := g3 } := by
        rintro x c np Q E ⟨g1, g2, q | ⟨q1, q2, q3⟩⟩ fin
        · exact ld_glob (X := X.suite a ((a, o3) :: (X.pn ++ pins))) sui g1 q fin g2
        · exact ld_blt (X := X.suite a ((a, o3) :: (X.pn ++ pins))) sui g1 q1 q2 fin q3 g2
      have looks : PySem.W.Looks (model X.prog X.w) g3 (typeOf (.ref a)) cls := fun A Q E s k q => wpAny_typeOf_ref (k _ _ e3) (by rw [z3.1]; exact q)
      induction hk with
      | nil =>
        intro wish
        refine wpAny_handleBy_nil ?_
        obtain ⟨-, -, -, oe, vs, T, oT, ts, y1, -, y2, y3, -⟩ := id fly
        have out : wpAny (model X.prog X.w) X.A (setFlight (.ref a) X.env.frame) (fun _ s4 => wpAny (model X.prog X.w) X.A (throw (.ref a) : Sem Flow) (SP X pins D) X.xe s4) X.xe { t1 with heap := g3 } := by
          rw [hf]
          exact HandSPX.setFlight_upZ fly fun g4 at4 sub4 => wpAny_throw (tk _ _ ⟨a, B, sI, pins, τ, J, cls, d, rfl, i0, nb, (up.trans sub3).trans sub4, .inr (.inr (hs ▸ at4)), na, os, ag, wish⟩)
        unfold PySem.passOn
        refine wpAny_bind (wpAny_field y1 y2 y3 ?_)
        have nn : ¬ ((Value.ref T == Value.none) = true) := by simp
        rw [if_neg nn]
        first
          | exact wpAny_bind out
          | exact wpAny_bind (wpAny_pure (wpAny_bind out))
      | @plain x c ts b0 bs np q hds2 l2 names suite rest ih =>
        rintro ⟨b, hb1, yes, no⟩
        refine wpAny_handleBy_cons (codeAny_handlers_test (tested names ((PySem.W.exm_one (M := model X.prog X.w) i3.kIn looks hb1).here ?_))) (fun z => by cases z)
        cases b with
        | false => exact ih (no rfl)
        | true =>
          refine codeAny_handlers_suite (HandSPX.lands_againZ fly fun g4 fly4 sub4 => ?_)
          obtain ⟨o4, v4, e4, z4, d4⟩ := fly4.there
          have i4 : Inv X pins τ J { t1 with heap := g4 } := i0.landed nb fly4.1 ((up.trans sub3).trans sub4) os ag
          refine wpAny_mono ((suite a o4 cls d (X.pn ++ pins) z4 ⟨_, d4⟩).run [] _ τ J _ (i4.suite e4 d4 na ne1 ne2) (yes rfl a na)) (fun f s6 sp => ?_) (fun _ _ z => z.elim)
          cases f with
          | ret u => exact let ⟨v, τ6, J6, k6, r6, q6⟩ := sp; ⟨v, τ6, J6, k6.unsuite ok, r6, q6⟩
          | next => exact let ⟨τ6, J6, k6, q6⟩ := sp; ⟨τ6, J6, k6.unsuite ok, q6⟩
          | brk => exact let ⟨τ6, J6, k6, q6⟩ := sp; ⟨τ6, J6, k6.unsuite ok, q6⟩
          | cont => exact let ⟨τ6, J6, k6, q6⟩ := sp; ⟨τ6, J6, k6.unsuite ok, q6⟩
      | @named x n i c ts b0 bs np q hds2 l2 names hi hl suite rest ih =>
        rintro ⟨b, hb1, yes, no⟩
        refine wpAny_handleBy_cons (codeAny_handlers_test (tested names ((PySem.W.exm_one (M := model X.prog X.w) i3.kIn looks hb1).here ?_))) (fun z => by cases z)
        cases b with
        | false => exact ih (no rfl)
        | true =>
          refine codeAny_handlers_suite_as (HandSPX.lands_againZ fly fun g4 fly4 sub4 => ?_)
          obtain ⟨o4, v4, e4, z4, d4⟩ := fly4.there
          have i4 : Inv X pins τ J { t1 with heap := g4 } := i0.landed nb fly4.1 ((up.trans sub3).trans sub4) os ag
          refine store_ok (X := X.suite a ((a, o4) :: (X.pn ++ pins))) (v := .ref a) (i4.suite e4 d4 na ne1 ne2) hN hi (Or.inl hl) rfl (fun s5 k5 => ?_) (Or.inr hl)
          refine wpAny_mono ((suite a o4 cls d (X.pn ++ pins) z4 ⟨_, d4⟩).run [] s5 _ J _ k5 (yes rfl a na)) (fun f s6 sp => ?_) (fun _ _ z => z.elim)
          cases f with
          | ret u => exact let ⟨v, τ6, J6, k6, r6, q6⟩ := sp; gone_ok (k6.unsuite ok) hN hi hl fun s7 k7 => ⟨v, _, J6, k7, r6, q6⟩
          | next => exact let ⟨τ6, J6, k6, q6⟩ := sp; gone_ok (k6.unsuite ok) hN hi hl fun s7 k7 => ⟨_, J6, k7, q6⟩
          | brk => exact let ⟨τ6, J6, k6, q6⟩ := sp; gone_ok (k6.unsuite ok) hN hi hl fun s7 k7 => ⟨_, J6, k7, q6⟩
          | cont => exact let ⟨τ6, J6, k6, q6⟩ := sp; gone_ok (k6.unsuite ok) hN hi hl fun s7 k7 => ⟨_, J6, k7, q6⟩
    exact each hh wish
  refine wpAny_Try_except (wpAny_mono run (fun f s6 sp => ?_) fun _ _ z => z)
  cases f with
  | ret u => exact let ⟨v, τ6, J6, k6, r6, q6⟩ := sp; ⟨v, τ6, J6, k6.ofTry ok, r6, q6⟩
  | next => exact let ⟨τ6, J6, k6, q6⟩ := sp; wpAny_execs_nil ⟨τ6, J6, k6.ofTry ok, q6⟩
  | brk => exact let ⟨τ6, J6, k6, q6⟩ := sp; ⟨τ6, J6, k6.ofTry ok, q6⟩
  | cont => exact let ⟨τ6, J6, k6, q6⟩ := sp; ⟨τ6, J6, k6.ofTry ok, q6⟩
end
/-! the same, read as a denotation -/
abbrev HD := (Str → Option Bool) × (List (Str × PV) → Sig → AH → Out)
def pickN : List HD → Str → List (Str × PV) → Sig → AH → Out
  | [], c, p, δ, S => .exc c p δ S
  | (sub, run) :: r, c, p, δ, S => match sub c with
    | some true => (run p δ S).nox
    | some false => pickN r c p δ S
    | none => .bad
def pickO (hs : List HD) : Out → Out
  | .exc c p δ S => pickN hs c p δ S
  | o => o
def dTryN (hs : List HD) (fb : Sig → AH → Out) : Sig → AH → Out := fun δ S => pickO hs (fb δ S)
def hPlain (fs : Sig → AH → Out) : List (Str × PV) → Sig → AH → Out := fun _ δ S => fs δ S
def hField (i : Nat) (f : Str) : List (Str × PV) → Sig → AH → Out := fun p δ S => match p.lookup f with
  | some y => if i < δ.length then .rt (.p y) S else .bad
  | none => .bad
inductive HdsD (X : Cx) : List ExceptHandler → List Hnd → List HD → Prop
  | nil : HdsD X [] [] []
  | plain {x : Str} {c : Value} {sub : Str → Option Bool} {fs : Sig → AH → Out} {b0 : Stmt} {bs : List Stmt} {np q : Pos} {hds : List ExceptHandler} {l : List Hnd} {hs : List HD} : Names X x c → (∀ n b cls, sub n = some b → X.mg n = some cls → PySem.W.exmOne X.K cls c = some b) →
      (∀ (a : Addr) (pn : List (Addr × Obj)), DSs (X.suite a pn) EN (b0 :: bs) fs) → HdsD X hds l hs →
      HdsD X (.ExceptHandler (some (.Name x np)) none (b0 :: bs) q :: hds) ((c, none, fun _ _ _ => tS (wd X) EN fs) :: l) ((sub, hPlain fs) :: hs)
  | field {x n f : Str} {i : Nat} {C : Addr} {sub : Str → Option Bool} {np p1 p2 p3 q : Pos} {hds : List ExceptHandler} {l : List Hnd} {hs : List HD} : Names X x (.ref C) → X.mg x = some (.ref C) → (∀ n b cls, sub n = some b → X.mg n = some cls → PySem.W.exmOne X.K cls (.ref C) = some b) → (∀ n, sub n = some true → n = x) →
      X.N[i]? = some n → X.env.kindOf n = some .local → Vis X.env.scope n → XfC X.K C → PySem.W.findIn X.K (.ref C) f = some none → (n == ("__debug__" : Str)) = false → (n == ("__classdict__" : Str)) = false → attributeBase (.Name n p1) f X.env (eval (.Name n p1) X.env) = eval (.Name n p1) X.env → HdsD X hds l hs →
      HdsD X (.ExceptHandler (some (.Name x np)) (some n) [.Return (some (.Attribute (.Name n p1) f p2)) p3] q :: hds) ((.ref C, some i, fun a cls d D σ H => tXf a cls d C f (tVar i) σ H D.rt) :: l) ((sub, hField i f) :: hs)
theorem HdsD.toM {X : Cx} {ks : List ExceptHandler} {l : List Hnd} {hs : List HD} (h : HdsD X ks l hs) : HdsM X ks l := by
  induction h with
  | nil => exact .nil
  | plain a _ c _ ih => exact .plain a (fun w oe cls d pn _ _ => c w _) ih
  | field a _ _ _ e g v T hno nd nc hab _ ih => exact .named a e g (fun w oe cls d pn hz hf => pss_one (ps_ret (pe_xf T hno hz hf (pe_var e v nd nc) hab))) ih
theorem lookup_rel {M : Wd} {as : As} {H : Hp} {f : Str} {y : PV} : ∀ {fs : List (Str × V)} {p : List (Str × PV)}, Paired (fun (g : Str × V) (h : Str × PV) => g.1 = h.1 ∧ PR M as H g.2 h.2) fs p → p.lookup f = some y → ∃ v, fs.lookup f = some v ∧ PR M as H v y
  | _, _, .nil, e => by cases e
  | (g1, v) :: _, (h1, z) :: _, .cons ⟨e1, r⟩ t, e => by
    have e1 : g1 = h1 := e1
    subst e1
    rw [List.lookup_cons] at e ⊢
    cases q : f == g1 with
    | true => rw [q] at e; cases e; exact ⟨v, by simp, r⟩
    | false => rw [q] at e; exact lookup_rel t e
theorem pick_ok {X : Cx} {E : L2.St → XK} {D : Ends} {ks : List ExceptHandler} {l : List Hnd} {hs : List HD} {c : Str} {p : List (Str × PV)} {δ : Sig} {S : AH} {as : As} {H : Hp} {σ : L2.St} {cls : Value} {dd : Option Addr} (h : HdsD X ks l hs) (s : SR (wd X) as H S) (r : ER (wd X) as H σ δ) (ex : ExR (wd X) as H c p cls dd) :
    WS (wd X) E D as H (pickN hs c p δ S) → wMix X.K (fun cls d σ H => E σ cls d H) D l cls dd σ H := by
  induction h with
  | nil => exact fun w => w as H σ cls dd (Ext.refl _ _) s r ex
  | @plain x cv sub fs b0 bs np q hds l hs a hsub c' _ ih =>
    intro w
    unfold pickN at w
    split at w
    · rename_i e1
      refine ⟨true, hsub c true cls e1 ex.1, fun _ a na => ⟨as, δ, S, s, r, ?_⟩, fun z => Bool.noConfusion z⟩
      cases ef : fs δ S with
      | nx δ4 S4 => simp only [hPlain, ef, DL.Out.nox] at w; exact w
      | ct δ4 S4 => simp only [hPlain, ef, DL.Out.nox] at w; exact w
      | bk δ4 S4 => simp only [hPlain, ef, DL.Out.nox] at w; exact w
      | rt d S4 => simp only [hPlain, ef, DL.Out.nox] at w; exact w
      | rtT d S4 => simp only [hPlain, ef, DL.Out.nox] at w; exact w
      | exc c p δ4 S4 => simp only [hPlain, ef, DL.Out.nox] at w; exact w.elim
      | bad => simp only [hPlain, ef, DL.Out.nox] at w; exact w
    · rename_i e1
      exact ⟨false, hsub c false cls e1 ex.1, fun z => Bool.noConfusion z, fun _ => ih w⟩
    · exact w.elim
  | @field x n f i C sub np p1 p2 p3 q hds l hs a m hsub own e g v T hno nd nc hab _ ih =>
    intro w
    unfold pickN at w
    split at w
    · rename_i e1
      refine ⟨true, hsub c true cls e1 ex.1, fun _ a na => ?_, fun z => Bool.noConfusion z⟩
      have ec : cls = .ref C := by
        have := own c e1
        subst this
        have := ex.1
        exact Option.some.inj (this.symm.trans m)
      simp only [hField] at w
      cases el : p.lookup f with
      | none => rw [el] at w; exact w.elim
      | some y =>
        simp only [el] at w
        by_cases hlt : i < δ.length
        case neg => rw [if_neg hlt] at w; exact w.elim
        rw [if_pos hlt] at w
        refine ⟨.ref a, by rw [List.getElem?_set_self (by rw [r.len]; exact hlt)], rfl, ec, ?_⟩
        have hp : p ≠ [] := fun z => by rw [z] at el; cases el
        obtain ⟨dx, fs, e2, e3, e4, e5⟩ := ex.2.2 hp
        obtain ⟨vv, k1, k2⟩ := lookup_rel e5 el
        exact ⟨dx, fs, vv, e2, e4, k1, w as H vv (Ext.refl _ _) s k2⟩
    · rename_i e1
      exact ⟨false, hsub c false cls e1 ex.1, fun z => Bool.noConfusion z, fun _ => ih w⟩
    · exact w.elim
section
variable {X : Cx} {E : L2.St → XK} {body : List Stmt} {h0 : ExceptHandler} {hds : List ExceptHandler} {l : List Hnd} {hs : List HD} {pos : Pos} {fb : Sig → AH → Out}
theorem ds_tryN (g : Gd X E) (hst : X.stack = X.env :: X.outer) (hf : X.env.frame = some X.env.locals) (hN : X.N.Nodup) (hd : HdsD X (h0 :: hds) l hs)
    (hb : ∀ (W : WX) (pn : List (Addr × Obj)) (xe : Value → Shared → Prop), Gd (X.tr pn xe) (WE W) → DSs (X.tr pn xe) (WE W) body fb) : DS X E (.Try body (h0 :: hds) [] [] pos) (dTryN hs fb) :=
  (ps_try_mix (tb := fun W => tS (wd X) (WE W) fb) (Wout := fun cls d σ H => E σ cls d H) hst hf hN g.tk (fun W pn xe tk po => hb W pn xe ⟨g.calm, tk, po⟩) hd.toM).imp fun D σ H ⟨as, δ, S, sr, er, w⟩ => by
  refine ⟨as, δ, S, sr, er, ?_⟩
  unfold dTryN at w
  cases eq : fb δ S with
  | exc c p δ1 S1 =>
    rw [eq] at w
    exact fun as' H' σ' cls dd x' s' r' ex => pick_ok hd s' r' ex (WS.later x' w)
  | nx δ1 S1 => rw [eq] at w; exact w
  | rt d S1 => rw [eq] at w; exact w
  | rtT d S1 => rw [eq] at w; exact w
  | bk δ1 S1 => rw [eq] at w; exact w
  | ct δ1 S1 => rw [eq] at w; exact w
  | bad => rw [eq] at w; exact w
end
/-! how it runs -/
@[simp] theorem ev_tryN {hs : List HD} {fb : Sig → AH → Out} {δ : Sig} {S : AH} : dTryN hs fb δ S = pickO hs (fb δ S) := rfl
@[simp] theorem pickO_nx {hs : List HD} {δ : Sig} {S : AH} : pickO hs (.nx δ S) = .nx δ S := rfl
@[simp] theorem pickO_rt {hs : List HD} {d : DV} {S : AH} : pickO hs (.rt d S) = .rt d S := rfl
@[simp] theorem pickO_exc {hs : List HD} {c : Str} {p : List (Str × PV)} {δ : Sig} {S : AH} : pickO hs (.exc c p δ S) = pickN hs c p δ S := rfl
theorem pick_yes {sub : Str → Option Bool} {run : List (Str × PV) → Sig → AH → Out} {r : List HD} {c : Str} {p : List (Str × PV)} {δ : Sig} {S : AH} (h : sub c = some true) : pickN ((sub, run) :: r) c p δ S = (run p δ S).nox := by
  unfold pickN
  rw [h]
theorem pick_no {sub : Str → Option Bool} {run : List (Str × PV) → Sig → AH → Out} {r : List HD} {c : Str} {p : List (Str × PV)} {δ : Sig} {S : AH} (h : sub c = some false) : pickN ((sub, run) :: r) c p δ S = pickN r c p δ S := by
  rw [pickN.eq_def]
  simp only [h]
@[simp] theorem ev_hPlain {fs : Sig → AH → Out} {p : List (Str × PV)} {δ : Sig} {S : AH} : hPlain fs p δ S = fs δ S := rfl
theorem ev_hField {i : Nat} {f : Str} {y : PV} {δ : Sig} {S : AH} (h : i < δ.length) : hField i f [(f, y)] δ S = .rt (.p y) S := by
  simp [hField, List.lookup, h]
@[simp] theorem ev_raiseF {c x : Str} {fa : Sig → AH → Res DV} {δ : Sig} {S : AH} : dRaiseF c x fa δ S = (fa δ S).out δ fun d S1 => match d with
  | .p y => .exc c [(x, y)] δ S1
  | .c _ => .bad := rfl
/-- one class is caught by its own name alone -/
theorem sub_ok2 {K : PySem.W.Frag} {C C2 : Addr} {x x2 n : Str} {b : Bool} {cls : Value} {mg : Str → Option Value} (i : PySem.W.isClsIn K C = true) (t : PySem.W.typeIn K (.ref C) = some (.type "type")) (bb : PySem.W.subIn K (.ref C) (.type "BaseException") = some true) (s : PySem.W.subIn K (.ref C) (.ref C) = some true)
    (m : mg x = some (.ref C)) (s2 : PySem.W.subIn K (.ref C2) (.ref C) = some false) (m2 : mg x2 = some (.ref C2)) (hs : (if n = x then some true else if n = x2 then some false else none) = some b) (hm : mg n = some cls) : PySem.W.exmOne K cls (.ref C) = some b := by
  by_cases e : n = x
  · exact sub_ok i t bb s m (by rw [if_pos e] at hs ⊢; exact hs) hm
  rw [if_neg e] at hs
  split at hs
  · rename_i e2
    subst e2
    cases hs
    rw [m2] at hm
    cases hm
    have k1 : (PySem.W.subIn K (.ref C) (.type "BaseException") == some true) = true := by rw [bb] <;> rfl
    have k3 : (PySem.W.clsIn K C).isSome = true := i
    have k2 : ((PySem.W.clsIn K C).isSome && PySem.W.typeIn K (.ref C) == some (.type "type")) = true := by rw [k3, t] <;> rfl
    unfold PySem.W.exmOne PySem.W.kitCls
    simp only [k1, k2, if_true, s2]
  · cases hs
end
end DL
namespace DL
noncomputable section
open PySem PySem.Spec PyProof.Rows L2

/-! ### sorted(set(t)), t a tuple of numbers -/
def insU (a : Int) : List Int → List Int
  | [] => [a]
  | b :: r => if a < b then a :: b :: r else if a = b then b :: r else b :: insU a r
def srtU : List Int → List Int
  | [] => []
  | a :: r => insU a (srtU r)
theorem insU_mem (a k : Int) : ∀ l, k ∈ insU a l ↔ k = a ∨ k ∈ l
  | [] => by simp [insU]
  | b :: r => by
    unfold insU
    by_cases h1 : a < b
    · rw [if_pos h1, List.mem_cons]
    · by_cases h2 : a = b
      · rw [if_neg h1, if_pos h2, h2, List.mem_cons]
        constructor
        · exact fun h => .inr h
        · rintro (h | h)
          · exact .inl h
          · exact h
      · rw [if_neg h1, if_neg h2, List.mem_cons, insU_mem a k r, List.mem_cons]
        constructor
        · rintro (h | h | h)
          · exact .inr (.inl h)
          · exact .inl h
          · exact .inr (.inr h)
        · rintro (h | h | h)
          · exact .inr (.inl h)
          · exact .inl h
          · exact .inr (.inr h)
theorem insU_asc (a : Int) : ∀ {l : List Int}, l.Pairwise (· < ·) → (insU a l).Pairwise (· < ·)
  | [], _ => by simp [insU]
  | b :: r, h => by
    obtain ⟨h1, h2⟩ := List.pairwise_cons.mp h
    unfold insU
    by_cases q1 : a < b
    · rw [if_pos q1]
      refine List.pairwise_cons.mpr ⟨fun y hy => ?_, h⟩
      rcases List.mem_cons.mp hy with rfl | hy
      · exact q1
      · have := h1 y hy; omega
    · by_cases q2 : a = b
      · rw [if_neg q1, if_pos q2]
        exact h
      · rw [if_neg q1, if_neg q2]
        refine List.pairwise_cons.mpr ⟨fun y hy => ?_, insU_asc a h2⟩
        rcases (insU_mem a y r).mp hy with rfl | hy
        · omega
        · exact h1 y hy
theorem srtU_mem (k : Int) : ∀ l, k ∈ srtU l ↔ k ∈ l
  | [] => by simp [srtU]
  | a :: r => by rw [srtU, insU_mem, srtU_mem k r, List.mem_cons]
theorem srtU_asc : ∀ l, (srtU l).Pairwise (· < ·)
  | [] => .nil
  | a :: r => insU_asc a (srtU_asc r)
theorem asc_same : ∀ {l m : List Int}, l.Pairwise (· < ·) → m.Pairwise (· < ·) → (∀ k, k ∈ l ↔ k ∈ m) → l = m
  | [], [], _, _, _ => rfl
  | [], b :: m, _, _, h => by have := (h b).mpr List.mem_cons_self; cases this
  | a :: l, [], _, _, h => by have := (h a).mp List.mem_cons_self; cases this
  | a :: l, b :: m, h1, h2, h => by
    obtain ⟨p1, p2⟩ := List.pairwise_cons.mp h1
    obtain ⟨q1, q2⟩ := List.pairwise_cons.mp h2
    have ab : a = b := by
      rcases List.mem_cons.mp ((h a).mp List.mem_cons_self) with e | e
      · exact e
      · rcases List.mem_cons.mp ((h b).mpr List.mem_cons_self) with e2 | e2
        · exact e2.symm
        · have := p1 b e2
          have := q1 a e
          omega
    subst ab
    rw [asc_same p2 q2 fun k => ?_]
    constructor
    · intro hk
      rcases List.mem_cons.mp ((h k).mp (List.mem_cons_of_mem _ hk)) with e | e
      · have := p1 k hk; omega
      · exact e
    · intro hk
      rcases List.mem_cons.mp ((h k).mpr (List.mem_cons_of_mem _ hk)) with e | e
      · have := q1 k hk; omega
      · exact e
section
variable {X : Cx}
def rSetI (K : PySem.W.Frag) (w : World) : List V → Hp → VK → Prop := fun vs H Q => ∃ (l : Addr) (ns : List Int), vs = [V.ref l] ∧ SqT K H l (ns.map V.int) ∧ ns.length ≤ 1000 ∧ ∀ a c, H a = none → c ≤ ns.length → Q (.ref a) (upd H a (SetO w a (fun j => decide (j ∈ ns)) c))
theorem cr_setI (hc : X.calm = true) : CallR X (.type "set") (rSetI X.K X.w) := by
  intro pins s σ H vs us Q I r ⟨l, ns, ev, hq, hz, q⟩
  subst ev
  rw [Vals.ref1 r]
  obtain ⟨its, rv, pt, _⟩ := I.tuple hq
  exact call_set_tupI ns (I.ok.hd hc) (show s.heap.IsTuple l its.toArray from pt) (ints_of_vals rv) (by unfold scanBound; omega) fun h' tk c R1 hcn k =>
    ⟨.ref s.heap.objs.size, _, I.laid (t' := tk) k (Nat.le_refl _) (setO_new R1), rfl, q _ c (I.hok.fresh (Nat.le_refl _)) hcn⟩
def ssetF : OpF := fun ds _ => match ds with
  | [.p (.tup xs)] => match intsOf xs with
    | some ns => if ns.length < 64 then some ((srtU ns).map PV.int) else none
    | none => none
  | _ => none
end
section
variable {X : Cx} {E : L2.St → XK} {e : Expr} {p p2 q pos : Pos} {fe : Sig → AH → Res DV}
theorem fe_sset (g : Gd X E) (hg : Gl X "sorted") (hm : X.mg "sorted" = none) (hg2 : Gl X "set") (hm2 : X.mg "set" = none) (he : DE X E e fe) (hs : starEach [e] X.env = [(false, eval e X.env)] := by rfl) (hs2 : starEach [Expr.Call (.Name "set" p2) [e] [] q] X.env = [(false, eval (Expr.Call (.Name "set" p2) [e] [] q) X.env)] := by rfl) :
    FE X E (.Call (.Name "sorted" p) [.Call (.Name "set" p2) [e] [] q] [] pos) (dAppF ssetF (dCons fe dNil)) :=
  (pe_callB (cr_sortedSet g.calm) hg hm (by kernel_rfl) (pa_cons (pe_callTy (cr_setI g.calm) hg2 hm2 (by kernel_rfl) (pa_cons he pa_nil hs) (by decide) (by decide) hs rfl) pa_nil hs2) (by decide) (by decide) hs2 rfl).imp fun σ H Q ⟨as, δ, S, sr, er, w⟩ => by
  have w : WF (wd X) (E σ) as H ((fe δ S).bind fun d S1 => match ssetF [d] S1 with
    | some ps => .ok ps S1
    | none => .bad) Q := by
    have e1 : dAppF ssetF (dCons fe dNil) δ S = (fe δ S).bind fun d S1 => match ssetF [d] S1 with
      | some ps => .ok ps S1
      | none => .bad := by
      show (Res.bind (Res.bind (fe δ S) _) _) = _
      cases fe δ S <;> rfl
    rw [← e1]
    exact w
  refine ⟨as, δ, S, sr, er, (WF.bind (R := DVR (wd X)) w).mono fun _ _ _ _ v _ _ _ _ ⟨as1, S1, d1, _, x1, s1, r1, w1⟩ => ?_⟩
  cases d1 with
  | c n => exact w1.elim
  | p x =>
  cases x with
  | tup xs =>
    cases r1 with
    | tup h t =>
      cases e1 : intsOf xs with
      | none => simp only [ssetF, e1] at w1; exact w1.elim
      | some ns =>
        by_cases h64 : ns.length < 64
        case neg => simp only [ssetF, e1, if_neg h64] at w1; exact w1.elim
        simp only [ssetF, e1, if_pos h64] at w1
        rw [intsOf_ok e1] at t
        have q2 := h.sq
        rw [t.ints] at q2
        refine ⟨_, ns, rfl, q2, by omega, fun a c na hc => ⟨a, _, c, rfl, upd_same, by omega, fun ns' p asc mem len np => ?_⟩⟩
        have en : ns' = srtU ns := asc_same asc (srtU_asc ns) fun k => by rw [mem k, srtU_mem]; simp
        subst en
        have x2 := ext_new (o := SetO X.w a (fun j => decide (j ∈ ns)) c) s1 na
        exact (WF.later x2 w1).here (s1.new na) (by rw [List.length_map, sizeLine_eq]; omega) (PRs.of_ints _) np
  | _ => exact w1.elim
end
end
end DL
namespace DL
noncomputable section
open PySem PySem.Spec PyProof.Rows L2
/-! ### a + b of two lists, as a new list -/
def catF (a b : DV) (S : AH) : Res (List PV) := match lstOf a S, lstOf b S with
  | some xs, some ys => if xs.length + ys.length ≤ 16777216 then .ok (xs ++ ys) S else .bad
  | _, _ => .bad
def dCat (fa fb : Sig → AH → Res DV) : Sig → AH → Res (List PV) := fun δ S => (fa δ S).bind fun a S => (fb δ S).bind fun b S => catF a b S
section
variable {X : Cx} {E : L2.St → XK} {a b : Expr} {pos : Pos} {fa fb : Sig → AH → Res DV}
theorem fe_cat (ha : DE X E a fa) (hb : DE X E b fb) : FE X E (.BinOp a .Add b pos) (dCat fa fb) := (pe_op op_cat ha hb).imp fun σ H Q ⟨as, δ, S, sr, er, w⟩ =>
  ⟨as, δ, S, sr, er, (WF.bind w).mono fun _ _ _ _ _ _ _ _ _ ⟨as1, S1, d1, _, x1, s1, r1, w1⟩ => ⟨as1, δ, S1, s1, er.mono x1.w, (WF.bind w1).mono fun _ _ _ _ _ _ _ _ _ ⟨as2, S2, d2, _, x2, s2, r2, w2⟩ => by
    unfold catF at w2
    split at w2
    · rename_i xs ys e1 e2
      obtain ⟨p, vs, rfl, z1, h1, t1⟩ := lstOf_at s2 (r1.mono x2.w) e1
      obtain ⟨q, ws, rfl, z2, h2, t2⟩ := lstOf_at s2 r2 e2
      split at w2
      · rename_i z
        have z : vs.length + ws.length ≤ sizeLine := by
          rw [t1.length, t2.length, show sizeLine = 16777216 by decide]; exact z
        exact ⟨_, _, _, _, rfl, rfl, h1, h2, z, fun p n => w2.here s2 (by rw [List.length_append]; exact z) (t1.append t2) n⟩
      · exact w2.elim
    · exact w2.elim⟩⟩
end
section
variable {δ : Sig} {S : AH} {fa fb : Sig → AH → Res DV}
def kCat (fb : Sig → AH → Res DV) (δ : Sig) (a : DV) (S : AH) : Res (List PV) := (fb δ S).bind (catF a)
@[simp] theorem ev_cat : dCat fa fb δ S = (fa δ S).bind (kCat fb δ) := (rfl)
@[simp] theorem ev_kCat {a : DV} : kCat fb δ a S = (fb δ S).bind (catF a) := (rfl)
theorem catF_ok {a b : DV} {xs ys : List PV} (h1 : lstOf a S = some xs) (h2 : lstOf b S = some ys) (z : xs.length + ys.length ≤ 16777216) : catF a b S = .ok (xs ++ ys) S := by
  unfold catF
  simp only [h1, h2]
  rw [if_pos z]
end
end
end DL
/-! D23: loops over a list that must stay, three cells at the end, remove, max and min of lists. -/
namespace DL
open PySem L2
section
variable {q : Pat} {fb : Sig → AH → Out} {δ : Sig} {S : AH} {ck : AH → Prop}
theorem for_nilC (h : ck S) : forGo ck q fb [] δ S = .nx δ S := by
  unfold forGo
  rw [if_pos h]
theorem for_consC {x : DV} {xs : List DV} {δ1 : Sig} (h0 : ck S) (h : q.set x δ = some δ1) : forGo ck q fb (x :: xs) δ S = afterTurn (fb δ1 S) (forGo ck q fb xs) := by
  conv => lhs; unfold forGo
  rw [if_pos h0]
  simp only [h]
  unfold afterTurn
  rfl
theorem for_nmC {i : Nat} {x : DV} {xs : List DV} (h0 : ck S) : forGo ck (.nm i) fb (x :: xs) δ S = afterTurn (fb (δ.set i (some x)) S) (forGo ck (.nm i) fb xs) := for_consC h0 rfl
end
section
variable {R : AH} {A B C : Cell}
theorem tri_get0 : (R ++ [A, B, C])[R.length]? = some A := by simp
theorem tri_get1 : (R ++ [A, B, C])[R.length + 1]? = some B := by
  rw [List.getElem?_append_right (by omega)]; simp
theorem tri_get2 : (R ++ [A, B, C])[R.length + 2]? = some C := by
  rw [List.getElem?_append_right (by omega)]; simp
theorem tri_set0 {X : Cell} : (R ++ [A, B, C]).set R.length X = R ++ [X, B, C] := by simp
theorem tri_set1 {X : Cell} : (R ++ [A, B, C]).set (R.length + 1) X = R ++ [A, X, C] := by
  rw [List.set_append_right _ _ (by omega)]; simp
theorem tri_set2 {X : Cell} : (R ++ [A, B, C]).set (R.length + 2) X = R ++ [A, B, X] := by
  rw [List.set_append_right _ _ (by omega)]; simp
theorem tri_take : (R ++ [A, B, C]).take R.length = R := by simp
end
theorem rem_c {n : Nat} {l : List Int} {b : Int} {S : AH} (h : S[n]? = some (.lst (l.map PV.int))) (hb : b ∈ l) : remM (.c n) [.p (.int b)] S = some (.p .non, S.set n (.lst ((l.erase b).map PV.int))) := by
  unfold remM
  simp only [h, intsOf_map, if_pos hb]
theorem max_items {d : DV} {l : List Int} {S : AH} (h : litems d S = some (l.map PV.int)) (hn : l ≠ []) : maxO [d] S = some (.p (.int (maxI l)), S) := by
  unfold maxO
  split
  · next e => cases e
  · next e => cases e; simp only [h, intsOf_map, if_pos hn]
  · next e1 e2 => exact absurd rfl (e2 _)
theorem min_items {d : DV} {l : List Int} {S : AH} (h : litems d S = some (l.map PV.int)) (hn : l ≠ []) : minO [d] S = some (.p (.int (minI l)), S) := by
  unfold minO
  split
  · next e => cases e
  · next e => cases e; simp only [h, intsOf_map, if_pos hn]
  · next e1 e2 => exact absurd rfl (e2 _)
theorem max_c {n : Nat} {l : List Int} {S : AH} (h : S[n]? = some (.lst (l.map PV.int))) (hn : l ≠ []) : maxO [.c n] S = some (.p (.int (maxI l)), S) := max_items (litems_c h) hn
theorem min_c {n : Nat} {l : List Int} {S : AH} (h : S[n]? = some (.lst (l.map PV.int))) (hn : l ≠ []) : minO [.c n] S = some (.p (.int (minI l)), S) := min_items (litems_c h) hn
theorem max_lst {l : List Int} {S : AH} (hn : l ≠ []) : maxO [.p (.lst (l.map PV.int))] S = some (.p (.int (maxI l)), S) := max_items rfl hn
theorem min_lst {l : List Int} {S : AH} (hn : l ≠ []) : minO [.p (.lst (l.map PV.int))] S = some (.p (.int (minI l)), S) := min_items rfl hn
/-- the last one -/
theorem atI_last {α : Type} {xs : List α} {x : α} : atI (xs ++ [x]) (-1) = some x := by
  unfold atI ixN
  rw [List.length_append, if_neg (by omega), if_pos (by simp; omega)]
  have e : ((-1 : Int) + ((xs.length + [x].length : Nat) : Int)).toNat = xs.length := by simp; omega
  rw [e]
  simp
theorem cnt_c {n : Nat} {l : List Int} {k : Int} {S : AH} (h : S[n]? = some (.lst (l.map PV.int))) : cntM (.c n) [.p (.int k)] S = some (.p (.int (l.count k : Nat)), S) := by
  unfold cntM
  simp only [litems_c h, Option.bind_some, intsOf_map]
theorem cnt_lst {l : List Int} {k : Int} {S : AH} : cntM (.p (.lst (l.map PV.int))) [.p (.int k)] S = some (.p (.int (l.count k : Nat)), S) := by
  unfold cntM
  simp only [litems_lst, Option.bind_some, intsOf_map]
/-- statement by statement -/
theorem sq_step {f g : Sig → AH → Out} {δ δ1 : Sig} {S S1 : AH} {o : Out} (h : f δ S = .nx δ1 S1) (h2 : g δ1 S1 = o) : dSeq f g δ S = o := by
  rw [ev_seq, h, seq_nx, h2]
theorem cutL_last {α : Type} {xs : List α} : cutL xs none (some (-1)) = xs.dropLast := by
  unfold cutL
  have e1 : HT.sIx xs.length xs.length (some (-1)) = xs.length - 1 := by
    show (if (-1 : Int) < 0 then ((-1 : Int) + (xs.length : Int)).toNat else min (-1 : Int).toNat xs.length) = _
    rw [if_pos (by decide)]; omega
  have e2 : HT.sIx xs.length 0 none = 0 := rfl
  rw [e1, e2, List.drop_zero, Nat.sub_zero, List.dropLast_eq_take]
/-- a loop that leaves all but its own name -/
theorem loop_same {fb : Sig → AH → Out} {i : Nat} {δ : Sig} {S : AH} : ∀ (items : List DV) (y0 : Option DV), (∀ x ∈ items, fb (δ.set i (some x)) S = .nx (δ.set i (some x)) S) → ∃ y, forGo ckT (.nm i) fb items (δ.set i y0) S = .nx (δ.set i y) S
  | [], y0, _ => ⟨y0, for_nil⟩
  | x :: items, y0, h => by
    obtain ⟨y, e⟩ := loop_same items (some x) fun z hz => h z (List.mem_cons_of_mem _ hz)
    refine ⟨y, ?_⟩
    rw [for_nm, List.set_set, h x List.mem_cons_self, after_nx, e]
theorem of_dit {vs : List PV} {x : DV} (h : x ∈ dit vs) : ∃ v ∈ vs, x = .p v := by
  obtain ⟨v, hv, rfl⟩ := List.mem_map.mp h
  exact ⟨v, hv, rfl⟩
theorem of_rangeI {lo : Int} {n : Nat} {x : DV} (h : x ∈ rangeI lo n) : ∃ k < n, x = .p (.int (lo + (k : Int))) := by
  rw [rangeI_eq] at h
  obtain ⟨k, hk, rfl⟩ := List.mem_map.mp h
  exact ⟨k, List.mem_range.mp hk, rfl⟩
end DL
/-! D24: x.count(k) of a list or a tuple of numbers. -/
namespace DL
open PySem PySem.Spec PyProof.Rows L2
section
variable {X : Cx}
theorem mt_tcount : MtR X "tuple.count" (fun x xs H Q => ∃ (p : Addr) (ns : List Int) (k : Int), x = .ref p ∧ xs = [.int k] ∧ SqT X.K H p (ns.map V.int) ∧ Q (.int (ns.count k : Nat)) H) := by
  rintro pins s σ H x xs v us Q I rx rxs ⟨p, ns, k, rfl, rfl, hs, q⟩
  cases rx
  obtain ⟨u, rfl, t, rfl⟩ := rxs.one
  obtain ⟨its, rv, ⟨⟨cls, dd, data, sl⟩, ho, hc, n, hd⟩, hlen⟩ := I.tuple hs
  simp only at hc hd
  subst hc hd
  have hi := ints_of_vals rv
  have ec : its.toArray.toList.countP (eqk k) = ns.count k := eqk_count hi
  refine call_meets PySem.F.slot_tuple_count ⟨_, ho, rfl⟩ PySem.F.entry_tuple_count (PySem.F.args_tuple_count_2 _ _)
    (SeqAt.tuple_countAt p its.toArray n dd sl (.int k t) (eqk k)) ⟨ho, fun y hy => (eqk_gives hi y (by simpa using hy)).at _ _, V.int (ns.count k : Nat), H, I.tok _, ⟨s.toks, ?_⟩, q⟩
  show Value.int ((its.toArray.toList.countP (eqk k) : Nat) : Int) s.toks = _
  rw [ec]
/-- a tuple without a dict of its own -/
def tyT (K : PySem.W.Frag) (x : V) (H : Hp) : Prop := ∃ p, x = .ref p ∧ ((∃ o xs, o.dict = none ∧ H p = some (.frz o (.tup xs))) ∨ (∃ o, K.lookup p = some o ∧ o.cls = .type "tuple" ∧ o.dict = none))
theorem tyT_is {pins : List (Addr × Obj)} {σ : L2.St} {H : Hp} {s : Shared} {x : V} {v : Value} (I : Inv X pins σ H s) (r : RelV x v) (ty : tyT X.K x H) :
    s.TypeIs v "tuple" ∧ ∀ a, v = .ref a → ∃ ob, s.heap.get? a = some ob ∧ ob.dict = none := by
  obtain ⟨p, rfl, h⟩ := ty
  cases r
  have k : ∃ o : Obj, s.heap.get? p = some o ∧ o.cls = .type "tuple" ∧ o.dict = none := by
    rcases h with ⟨o, xs, hd, e⟩ | ⟨o, e, hc, hd⟩
    · obtain ⟨g, _, its, _, o2, g2, hc, _⟩ := I.hok p _ e
      have : o2 = o := Option.some.inj (g2.symm.trans g)
      subst this
      exact ⟨o2, g2, hc, hd⟩
    · exact ⟨o, I.kIn p o e, hc, hd⟩
  obtain ⟨o, g, hc, hd⟩ := k
  exact ⟨⟨o, g, hc⟩, fun a e => by cases e; exact ⟨o, g, hd⟩⟩
theorem RdT.ty {K : PySem.W.Frag} {as : As} {H : Hp} {a : Addr} {xs : List V} (h : RdT K as H a xs) : tyT K (.ref a) H := by
  rcases h.2 with ⟨⟨o, d, e⟩, _⟩ | ⟨o, its, n, h1, h2, h3, _⟩
  · exact ⟨a, rfl, .inl ⟨o, xs, d, e⟩⟩
  · exact ⟨a, rfl, .inr ⟨o, h1, h2, h3⟩⟩
/-- a method of a list or a tuple -/
theorem pe_mLT {o e : Expr} {es : List Expr} {to : TE} {t : TA} {name : Str} {apos cpos : Pos} {i1 i2 : String} {r1 r2 : V → List V → Hp → VK → Prop}
    (s1 : Slot "list" name i1) (s2 : Slot "tuple" name i2) (y1 : typeOf (.builtin i1) = pure (.type "method_descriptor")) (y2 : typeOf (.builtin i2) = pure (.type "method_descriptor")) (m1 : MtR X i1 r1) (m2 : MtR X i2 r2) (ho : PE X o to) (ha : PA X (e :: es) t)
    (hbase : attributeBase o name X.env (eval o X.env) = eval o X.env)
    (hfew : ((backTo cpos (starEach (e :: es) X.env)).all (fun x => !x.1) && (backToKw cpos (keywordEach [] X.env)).all (fun x => x.1.isSome) && decide ((e :: es).length + ([] : List Keyword).length + (if ([] : List Keyword).isEmpty then 0 else 1) < 30)) = true)
    (hline : (apos.endLine == cpos.line) = true) (hs : starEach (e :: es) X.env = (false, eval e X.env) :: starEach es X.env) (hp : (backTo cpos (starEach es X.env)).any (·.1) = false) :
    PE X (.Call (.Attribute o name apos) (e :: es) [] cpos) (fun σ H Q => to σ H fun x H1 => (tyV X.K "list" x H1 ∧ t σ H1 fun xs H2 => r1 x xs H2 Q) ∨ (tyT X.K x H1 ∧ t σ H1 fun xs H2 => r2 x xs H2 Q)) := by
  constructor
  intro pins s σ H Q I h
  refine wpAny_Call_method_late hbase hfew hline rfl (thn (ho.run pins s σ H _ I h) fun v w1 ⟨x, H1, I1, rv, q⟩ => ?_)
  rcases q with ⟨ty, q1⟩ | ⟨ty, q1⟩
  · obtain ⟨h1, h2⟩ := tyV_is I1 rv ty
    refine ⟨"list", i1, PySem.F.plainAttrs_list, s1, y1, h1, h2, ?_⟩
    have hA := ha.run cpos pins w1 σ H1 _ I1 q1
    rw [hs] at hA ⊢
    exact Calls.callWith_builtin (by show (false || (backTo cpos (starEach es X.env)).any (·.1)) = false; rw [hp]; rfl) (Calls.evalArgs_plain (thn hA fun us w2 ⟨vs, H2, I2, r2, q2⟩ => m1 pins w2 σ H2 x vs v us Q I2 rv r2 q2))
  · obtain ⟨h1, h2⟩ := tyT_is I1 rv ty
    refine ⟨"tuple", i2, PySem.F.plainAttrs_tuple, s2, y2, h1, h2, ?_⟩
    have hA := ha.run cpos pins w1 σ H1 _ I1 q1
    rw [hs] at hA ⊢
    exact Calls.callWith_builtin (by show (false || (backTo cpos (starEach es X.env)).any (·.1)) = false; rw [hp]; rfl) (Calls.evalArgs_plain (thn hA fun us w2 ⟨vs, H2, I2, r2, q2⟩ => m2 pins w2 σ H2 x vs v us Q I2 rv r2 q2))
end
/-! ### in the layer -/
def cntT : OpM := fun d ds S => match d, ds with
  | .p (.tup xs), [.p (.int k)] => match intsOf xs with
    | some ns => some (.p (.int (ns.count k : Nat)), S)
    | none => none
  | _, _ => none
def kCntT (xs : List PV) (ds : List DV) (S : AH) : Res DV := lift (cntT (.p (.tup xs)) ds S)
def kCnt (fs : Sig → AH → Res (List DV)) (δ : Sig) (d : DV) (S : AH) : Res DV := match d with
  | .p (.tup xs) => (fs δ S).bind (kCntT xs)
  | d => kMeth cntM fs δ d S
def dCnt (fo : Sig → AH → Res DV) (fs : Sig → AH → Res (List DV)) : Sig → AH → Res DV := fun δ S => (fo δ S).bind (kCnt fs δ)
section
variable {X : Cx} {E : L2.St → XK} {ob e : Expr} {es : List Expr} {name : Str} {apos cpos : Pos} {fo : Sig → AH → Res DV} {fs : Sig → AH → Res (List DV)}
theorem ow_cntT : MtR X "tuple.count" (rMD (wd X) cntT) := by
  intro pins s σ H x vs v us Q I rx rv h
  obtain ⟨as, S, d, ds, sr, r1, r2, w⟩ := h
  unfold cntT at w
  split at w
  · obtain ⟨y, rfl, ry⟩ := DVRs.one r2
    cases ry
    split at w
    · rename_i ns e
      cases r1 with
      | tup h t =>
        rw [intsOf_ok e] at t
        have hs := h.sq
        rw [t.ints] at hs
        exact mt_tcount pins s σ H _ _ v us Q I rx rv ⟨_, ns, _, rfl, rfl, hs, w.here sr (.int _)⟩
    · exact w.elim
  · exact w.elim
theorem de_cnt (slot : Slot "list" name "list.count") (slot2 : Slot "tuple" name "tuple.count") (ho : DE X E ob fo) (ha : DA X E (e :: es) fs)
    (hbase : attributeBase ob name X.env (eval ob X.env) = eval ob X.env := by rfl)
    (hfew : ((backTo cpos (starEach (e :: es) X.env)).all (fun x => !x.1) && (backToKw cpos (keywordEach [] X.env)).all (fun x => x.1.isSome) && decide ((e :: es).length + ([] : List Keyword).length + (if ([] : List Keyword).isEmpty then 0 else 1) < 30)) = true := by rfl)
    (hline : (apos.endLine == cpos.line) = true := by rfl) (hs : starEach (e :: es) X.env = (false, eval e X.env) :: starEach es X.env := by rfl) (hp : (backTo cpos (starEach es X.env)).any (·.1) = false := by rfl) :
    DE X E (.Call (.Attribute ob name apos) (e :: es) [] cpos) (dCnt fo fs) :=
  (pe_mLT slot slot2 PySem.F.type_list_count PySem.F.type_tuple_count ow_count ow_cntT ho ha hbase hfew hline hs hp).imp fun σ H Q ⟨as, δ, S, sr, er, w⟩ =>
    ⟨as, δ, S, sr, er, w.bind.mono fun _ _ _ _ _ _ _ _ _ ⟨as1, S1, d1, _, x1, s1, r1, w1⟩ => by
      unfold kCnt at w1
      split at w1
      · cases r1 with
        | tup h t =>
          refine .inr ⟨h.ty, as1, δ, S1, s1, er.mono x1.w, w1.bind.mono fun _ _ _ _ _ _ _ _ _ ⟨as2, S2, d2, _, x2, s2, r2, w2⟩ => ?_⟩
          exact ⟨as2, S2, _, d2, s2, (DVR.mono (d := .p (.tup _)) x2.w (.tup h t)), r2, w2.wo⟩
      · unfold kMeth at w1
        split at w1
        · rename_i e1
          obtain ⟨a, vs, rfl, q⟩ := isLst_sq s1 r1 e1
          exact .inl ⟨.inl ⟨rfl, _, q⟩, as1, δ, S1, s1, er.mono x1.w, w1.bind.mono fun _ _ _ _ _ _ _ _ _ ⟨as2, S2, d2, _, x2, s2, r2, w2⟩ => ⟨as2, S2, d1, d2, s2, r1.mono x2.w, r2, w2.wo⟩⟩
        · exact w1.elim⟩
theorem ow_idx : MtR X "list.index" (rMD (wd X) idxM) := by
  intro pins s σ H x vs v us Q I rx rv h
  obtain ⟨as, S, d, ds, sr, r1, r2, w⟩ := h
  unfold idxM at w
  split at w
  · rename_i k
    obtain ⟨y, rfl, ry⟩ := DVRs.one r2
    cases ry
    split at w
    · rename_i ns e
      simp only [Option.bind_eq_some_iff] at e
      obtain ⟨xs, e1, e2⟩ := e
      obtain ⟨a, ws, rfl, z, q, t⟩ := litems_sq sr r1 e1
      rw [intsOf_ok e2] at t
      rw [t.ints] at q
      split at w
      · rename_i hk
        have hi : ns.idxOf k < ns.length := List.idxOf_lt_length_of_mem hk
        refine mt_index pins s σ H _ _ v us Q I rx rv ⟨a, _, _, ns.idxOf k, .int k, rfl, rfl, q, rfl, ?_, ?_, ?_, ?_, w.here sr (.int _)⟩
        · rw [List.all_map]; exact List.all_eq_true.mpr fun _ _ => rfl
        · rw [List.getElem?_map, List.getElem?_eq_getElem hi, List.getElem_idxOf]; rfl
        · simp [eqV]
        · intro m z' hm hz
          rw [List.getElem?_map] at hz
          obtain ⟨i, hi2, rfl⟩ := Option.map_eq_some_iff.mp hz
          have hne := idxOf_first ns k m hm
          have : i ≠ k := fun e => hne (by rw [hi2, e])
          simp [eqV, this]
      · exact w.elim
    · exact w.elim
  · exact w.elim
end
@[simp] theorem ev_cnt {fo : Sig → AH → Res DV} {fs : Sig → AH → Res (List DV)} {δ : Sig} {S : AH} : dCnt fo fs δ S = (fo δ S).bind (kCnt fs δ) := (rfl)
@[simp] theorem kCnt_tup {fs : Sig → AH → Res (List DV)} {δ : Sig} {S : AH} {xs : List PV} : kCnt fs δ (.p (.tup xs)) S = (fs δ S).bind (kCntT xs) := (rfl)
@[simp] theorem kCntT_ints {ns : List Int} {k : Int} {S : AH} : kCntT (ns.map PV.int) [.p (.int k)] S = .ok (.p (.int (ns.count k : Nat))) S := by
  unfold kCntT cntT
  simp only [intsOf_map]
  rfl
@[simp] theorem kCnt_lst {fs : Sig → AH → Res (List DV)} {δ : Sig} {S : AH} {xs : List PV} : kCnt fs δ (.p (.lst xs)) S = (fs δ S).bind (kMeth2 cntM (.p (.lst xs))) := ev_kMeth litems_lst
theorem kCnt_c {fs : Sig → AH → Res (List DV)} {δ : Sig} {S : AH} {n : Nat} {xs : List PV} (h : S[n]? = some (.lst xs)) : kCnt fs δ (.c n) S = (fs δ S).bind (kMeth2 cntM (.c n)) := ev_kMeth (litems_c h)
theorem idx_lst {ns : List Int} {k : Int} {S : AH} (h : k ∈ ns) : idxM (.p (.lst (ns.map PV.int))) [.p (.int k)] S = some (.p (.int (ns.idxOf k : Nat)), S) := by
  unfold idxM
  simp only [litems_lst, Option.bind_some, intsOf_map, if_pos h]
end DL
/-! D25: dicts with numbers as keys: dict(t) of a tuple of pairs, d[k], k in d, d.get(k, x). -/
namespace DL
open PySem PySem.Spec PyProof.Rows L2
def lookD (kvs : List (Int × PV)) (k : Int) : Option PV := (kvs.find? fun p => decide (p.1 = k)).map (·.2)
section
variable {M : Wd} {as : As} {H : Hp}
theorem dzip_val : ∀ {kvs : List (Int × PV)} {vs : List V}, PRs M as H vs (kvs.map (·.2)) → ∀ k : Int, (valV (dzip kvs vs) (Sum.inl k) = none ∧ lookD kvs k = none) ∨ (∃ v p, valV (dzip kvs vs) (Sum.inl k) = some v ∧ lookD kvs k = some p ∧ PR M as H v p)
  | [], _, _, k => .inl ⟨rfl, rfl⟩
  | (j, x) :: kvs, [], r, k => by cases r
  | (j, x) :: kvs, v :: vs, r, k => by
    cases r with
    | cons h t =>
      have ih := dzip_val t k
      have e : dzip ((j, x) :: kvs) (v :: vs) = ((Sum.inl j : Key), v) :: dzip kvs vs := rfl
      by_cases q : j = k
      · subst q
        refine .inr ⟨v, x, ?_, ?_, h⟩
        · rw [e]; unfold valV; simp
        · unfold lookD; simp
      · have q2 : ¬ ((Sum.inl j : Key) = Sum.inl k) := fun z => q (Sum.inl.inj z)
        have e1 : valV (dzip ((j, x) :: kvs) (v :: vs)) (Sum.inl k) = valV (dzip kvs vs) (Sum.inl k) := by rw [e]; unfold valV; simp [q]
        have e2 : lookD ((j, x) :: kvs) k = lookD kvs k := by unfold lookD; simp [q]
        rw [e1, e2]
        exact ih
end
/-- the pairs of a tuple -/
def pairOf : PV → Option (Int × PV)
  | .tup [.int k, v] => some (k, v)
  | _ => none
def pairsOf : List PV → Option (List (Int × PV))
  | [] => some []
  | x :: xs => (pairOf x).bind fun p => (pairsOf xs).map fun r => p :: r
def pairsD : DV → Option (List (Int × PV))
  | .p (.tup xs) => pairsOf xs
  | _ => none
open Classical in
def dDict (fs : Sig → AH → Res (List DV)) : Sig → AH → Res DV := fun δ S => (fs δ S).bind fun ds S => match ds with
  | [d] => match pairsD d with
    | some kvs => if (kvs.map (·.1)).Nodup then .ok (.c S.length) (S ++ [.dct kvs]) else .bad
    | none => .bad
  | _ => .bad
theorem mergeK_nodup : ∀ (more kvs : List (Key × V)), ((kvs ++ more).map (·.1)).Nodup → mergeK kvs more = kvs ++ more
  | [], kvs, _ => by rw [List.append_nil]; rfl
  | p :: more, kvs, h => by
    have nm : ∀ q ∈ kvs, q.1 ≠ p.1 := fun q hq e => by
      rw [List.map_append, List.nodup_append] at h
      exact h.2.2 q.1 (List.mem_map.mpr ⟨q, hq, rfl⟩) p.1 (by simp) e
    have e : putK kvs p.1 p.2 = kvs ++ [p] := by
      unfold putK
      rw [if_neg]
      intro z
      obtain ⟨q, hq, hz⟩ := List.any_eq_true.mp z
      exact nm q hq (by simpa using hz)
    show mergeK (putK kvs p.1 p.2) more = _
    rw [e, mergeK_nodup more (kvs ++ [p]) (by simpa using h)]
    simp
section
variable {X : Cx}
/-- dict(t) of a tuple of pairs -/
theorem call_dictT (hcalm : X.calm = true) : CallR X (.type "dict") (fun xs H Q => ∃ (a : Addr) (ps : List Addr) (kvs : List (Key × V)), xs = [.ref a] ∧ SqT X.K H a (ps.map V.ref) ∧ tyT X.K (.ref a) H ∧ Paired (fun p kv => SqT X.K H p [kV kv.1, kv.2]) ps kvs ∧
    ∀ p, H p = none → Q (.ref p) (upd H p (.dK (mergeK [] kvs)))) := by
  rintro pins s σ H xs us Q I r ⟨a, ps, kvs, rfl, hq, ty, hp, q⟩
  obtain ⟨u, rfl, rx⟩ := vals1 r
  cases rx
  obtain ⟨its, rv, ⟨o, ho, hc, n, hd⟩, hz⟩ := I.tuple hq
  have ei := refs_at rv
  subst ei
  rw [List.length_map] at hz
  obtain ⟨_, nd⟩ := tyT_is (v := Value.ref a) I (show L2.RelV (V.ref a) (Value.ref a) from rfl) ty
  obtain ⟨o2, ho2, hdn⟩ := nd a rfl
  have eo : o2 = o := Option.some.inj (ho2.symm.trans ho)
  subst eo
  obtain ⟨prs, rel, hl, hpr⟩ := pairs_of I hp
  have items : ∃ rps : List (Value × Value), rps.length = prs.length ∧ ∀ (j : Nat) (k v : Value), rps[j]? = some (k, v) → ∃ (b : Addr) (p : Key × Value), prs[j]? = some p ∧ ps[j]? = some b ∧ p.2 = v ∧ keyIs p.1 k = true ∧ IsTup s.heap b #[k, v] := by
    have go : ∀ (prs : List (Key × Value)) (ps : List Addr), (∀ (j : Nat) (q : Key × Value), prs[j]? = some q → ∃ (b : Addr) (u : Value), ps[j]? = some b ∧ IsTup s.heap b #[u, q.2] ∧ keyIs q.1 u = true) →
        ∃ rps : List (Value × Value), rps.length = prs.length ∧ ∀ (j : Nat) (k v : Value), rps[j]? = some (k, v) → ∃ (b : Addr) (p : Key × Value), prs[j]? = some p ∧ ps[j]? = some b ∧ p.2 = v ∧ keyIs p.1 k = true ∧ IsTup s.heap b #[k, v] := by
      intro prs
      induction prs with
      | nil => intro ps _; exact ⟨[], rfl, fun j k v e => by simp at e⟩
      | cons p prs ih =>
        intro ps h
        obtain ⟨b, u, e1, e2, e3⟩ := h 0 p rfl
        cases ps with
        | nil => simp at e1
        | cons b' ps =>
          obtain ⟨rps, l, f⟩ := ih ps (fun j q e => by simpa using h (j + 1) q (by simpa using e))
          refine ⟨(u, p.2) :: rps, by simp [l], fun j k v e => ?_⟩
          cases j with
          | zero =>
            have e' : (u, p.2) = (k, v) := Option.some.inj e
            cases e'
            exact ⟨b, p, rfl, e1, rfl, e3, e2⟩
          | succ j =>
            obtain ⟨b2, p2, f1, f2, f3⟩ := f j k v (by simpa using e)
            exact ⟨b2, p2, by simpa using f1, by simpa using f2, f3⟩
    exact go prs ps hpr
  obtain ⟨rps, rl, rf⟩ := items
  refine PySem.call_dict_pairs (knd := mixKind X.prog X.w) (kvs := prs) (PairArg.tuple a (ps.map Value.ref).toArray (fun j => ps.getD j 0) rps) (I.ok.hd hcalm) ⟨⟨o2, n, ho, hc, hdn, hd⟩, by simp [rl, hl], fun j k v e => ?_⟩ ⟨rl.symm, fun j k v e => ?_⟩ (by rw [rl, hl]; exact hz) fun h' tk hd' k => ?_
  · obtain ⟨b, p, f1, f2, f3, f4, f5⟩ := rf j k v e
    have gb : ps.getD j 0 = b := by rw [List.getD_eq_getElem?_getD, f2]; rfl
    obtain ⟨ot, h1, h2, m, h3⟩ := f5
    exact ⟨by show (ps.map Value.ref).toArray[j]? = some (Value.ref (ps.getD j 0)); rw [gb]; simp [f2], by show PairAt s.heap (ps.getD j 0) k v; rw [gb]; exact .inl ⟨ot, h1, h2, m, h3⟩⟩
  · obtain ⟨b, p, f1, f2, f3, f4, f5⟩ := rf j k v e
    exact ⟨p.1, by rw [f1, ← f3], f4⟩
  · have hm : (s.heap.objs.size == sysModules) = false := beq_eq_false_iff_ne.mpr (Nat.ne_of_gt I.big)
    have hlen : (mergeK [] kvs).length ≤ sizeLine := by
      have := length_mergeK kvs []
      rw [List.length_nil, Nat.zero_add, rel.length, hl] at this
      omega
    have J := I.laid (t' := tk) (o := .dK (mergeK [] kvs)) (fun b w e => k b w (by simp) e) (Nat.le_refl _) ⟨hlen, hm, merged [] prs, KV.merge rel .nil, hd'⟩
    exact ⟨.ref s.heap.objs.size, _, J, rfl, q _ (I.hok.fresh (Nat.le_refl _))⟩
theorem pairs_rel {M : Wd} {as : As} {H : Hp} : ∀ {xs : List PV} {us : List V} {kvs : List (Int × PV)}, PRs M as H us xs → pairsOf xs = some kvs → ∃ (ps : List Addr) (vs : List V), us = ps.map V.ref ∧ PRs M as H vs (kvs.map (·.2)) ∧ vs.length = us.length ∧ Paired (fun (p : Addr) (kv : Key × V) => SqT M.K H p [kV kv.1, kv.2]) ps (dzip kvs vs)
  | [], us, kvs, r, e => by
    cases r
    have : [] = kvs := Option.some.inj e
    subst this
    exact ⟨[], [], rfl, .nil, rfl, .nil⟩
  | x :: xs, us, kvs, r, e => by
    cases r with
    | cons h t =>
      rename_i u us
      simp only [pairsOf, Option.bind_eq_some_iff, Option.map_eq_some_iff] at e
      obtain ⟨⟨k, v⟩, e1, kvs', e2, rfl⟩ := e
      obtain ⟨ps, vs, rfl, q1, q2, q3⟩ := pairs_rel t e2
      unfold pairOf at e1
      split at e1
      · cases e1
        cases h with
        | tup hr ht =>
          cases ht with
          | cons hk ht =>
            cases hk
            cases ht with
            | cons hv ht =>
              cases ht
              exact ⟨_ :: ps, _ :: vs, rfl, .cons hv q1, by simp [q2], .cons hr.sq q3⟩
      · cases e1
end
section
variable {X : Cx} {E : L2.St → XK} {a b c : Expr} {es : List Expr} {p pos apos cpos : Pos} {x : Str} {fa fb fc : Sig → AH → Res DV} {fs : Sig → AH → Res (List DV)}
theorem de_dict (g : Gd X E) (hg : Gl X "dict") (hm : X.mg "dict" = none) (ha : DA X E (a :: es) fs)
    (he : starEach (a :: es) X.env = (false, eval a X.env) :: starEach es X.env := by rfl) (hpl : (backTo pos (starEach es X.env)).any (·.1) = false := by rfl) : DE X E (.Call (.Name "dict" p) (a :: es) [] pos) (dDict fs) :=
  (pe_callTy (call_dictT g.calm) hg hm (show bootBuiltins "dict" = some (.type "dict") by decide +kernel) ha (by decide) (by decide) he hpl).imp fun σ H Q ⟨as, δ, S, sr, er, w⟩ =>
    ⟨as, δ, S, sr, er, (WR.bind w).mono fun _ _ _ _ _ _ _ _ _ ⟨as1, S1, ds, _, x1, s1, r1, w1⟩ => by
      split at w1
      · rename_i d
        obtain ⟨v, rfl, rv⟩ := DVRs.one r1
        split at w1
        · rename_i kvs e
          split at w1
          · rename_i nd
            unfold pairsD at e
            split at e
            · cases rv with
              | tup h t =>
                obtain ⟨ps, vs, eu, q1, q2, q3⟩ := pairs_rel t e
                subst eu
                have hl : kvs.length = vs.length := by have := q1.length; simpa using this.symm
                have dm : mergeK [] (dzip kvs vs) = dzip kvs vs := by
                  rw [mergeK_nodup]
                  · rfl
                  · rw [List.nil_append]
                    have : (dzip kvs vs).map (·.1) = (kvs.map (·.1)).map Sum.inl := by
                      unfold dzip
                      rw [List.map_fst_zip (by simp [hl]), List.map_map]
                      rfl
                    rw [this]
                    exact nd.map _ (fun _ _ hne z => hne (Sum.inl.inj z))
                refine ⟨_, ps, dzip kvs vs, rfl, h.sq, h.ty, q3, fun p0 n => ?_⟩
                rw [dm]
                have hz : vs.length ≤ sizeLine := by rw [q2]; exact h.1
                exact w1 (as1.add p0) _ _ (ext_any s1 n) (s1.newAny n ⟨vs, hz, upd_same, q1.mono (ext_any s1 n).w⟩) ⟨p0, by rw [← s1.len]; simp [As.add], rfl⟩
            · cases e
          · exact w1.elim
        · exact w1.elim
      · exact w1.elim⟩
def dctOf (d : DV) (S : AH) : Option (List (Int × PV)) := match d with
  | .c n => match S[n]? with
    | some (.dct kvs) => some kvs
    | _ => none
  | _ => none
theorem dct_at {M : Wd} {as : As} {H : Hp} {S : AH} {d : DV} {v : V} {kvs : List (Int × PV)} (s : SR M as H S) (r : DVR M as H v d) (e : dctOf d S = some kvs) : ∃ a vs, v = .ref a ∧ H a = some (.dK (dzip kvs vs)) ∧ PRs M as H vs (kvs.map (·.2)) := by
  unfold dctOf at e
  split at e
  · split at e
    · rename_i n kvs' e2
      cases e
      obtain ⟨b, vs, eb, z, hb, t⟩ := s.atD e2
      obtain ⟨b2, eb2, rfl⟩ := r
      rw [eb] at eb2; cases eb2
      exact ⟨b, vs, rfl, hb, t⟩
    · cases e
  · cases e
/-- d[k] -/
def dGetK (fo fi : Sig → AH → Res DV) : Sig → AH → Res DV := fun δ S => (fo δ S).bind fun d S => (fi δ S).bind fun i S => match i with
  | .p (.int k) => match (dctOf d S).bind fun kvs => lookD kvs k with
    | some p => .ok (.p p) S
    | none => .bad
  | _ => .bad
/-- k in d -/
def dInK (fi fo : Sig → AH → Res DV) : Sig → AH → Res Bool := fun δ S => (fi δ S).bind fun i S => (fo δ S).bind fun d S => match i with
  | .p (.int k) => match dctOf d S with
    | some kvs => .ok (lookD kvs k).isSome S
    | none => .bad
  | _ => .bad
/-- d.get(k, x) -/
def dGet2 (fo fi fx : Sig → AH → Res DV) : Sig → AH → Res DV := fun δ S => (fo δ S).bind fun d S => if (dctOf d S).isSome = true then (fi δ S).bind fun i S => (fx δ S).bind fun x S => match i with
  | .p (.int k) => match dctOf d S with
    | some kvs => match lookD kvs k with
      | some p => .ok (.p p) S
      | none => .ok x S
    | none => .bad
  | _ => .bad
  else .bad
theorem de_getK (hu : X.A.units + 64 < cLine) (ho : DE X E a fa) (hi : DE X E b fb) (hs : NoSl b := by rfl) : DE X E (.Subscript a b pos) (dGetK fa fb) := (pe_dget (by omega) ho hi hs).imp fun σ H Q ⟨as, δ, S, sr, er, w⟩ =>
  ⟨as, δ, S, sr, er, w.bind.mono fun _ _ _ _ _ _ _ _ _ ⟨as1, S1, d1, _, x1, s1, r1, w1⟩ => ⟨as1, δ, S1, s1, er.mono x1.w, w1.bind.mono fun _ _ _ _ _ _ _ _ _ ⟨as2, S2, d2, _, x2, s2, r2, w2⟩ => by
    cases d2 with
    | c _ => exact w2.elim
    | p x =>
      cases x with
      | int k =>
        cases r2
        dsimp only at w2
        split at w2
        · rename_i p e
          simp only [Option.bind_eq_some_iff] at e
          obtain ⟨kvs, e1, e2⟩ := e
          obtain ⟨ad, vs, rfl, hd, t⟩ := dct_at s2 (r1.mono x2.w) e1
          rcases dzip_val t k with ⟨_, q⟩ | ⟨v, p', q1, q2, q3⟩
          · rw [q] at e2; cases e2
          · rw [q2] at e2; cases e2
            refine ⟨ad, v, rfl, ?_, w2.pure s2 q3⟩
            have := DGet.k (k := Sum.inl k) hd
            rw [q1] at this
            exact this
        · exact w2.elim
      | _ => exact w2.elim⟩⟩
theorem in_t {σ : L2.St} {H : Hp} {Q : VK} {as : As} {δ : Sig} {S : AH} (sr : SR (wd X) as H S) (er : ER (wd X) as H σ δ) (w : WR (wd X) (E σ) RB as H (dInK fa fb δ S) fun k H' => Q (.bl k) H') : tDIn (tD (wd X) E fa) (tD (wd X) E fb) σ H Q :=
  ⟨as, δ, S, sr, er, w.bind.mono fun _ _ _ _ _ _ _ _ _ ⟨as1, S1, d1, _, x1, s1, r1, w1⟩ => ⟨as1, δ, S1, s1, er.mono x1.w, w1.bind.mono fun _ _ _ _ _ _ _ _ _ ⟨as2, S2, d2, _, x2, s2, r2, w2⟩ => by
    cases d1 with
    | c _ => exact w2.elim
    | p x =>
      cases x with
      | int k =>
        cases r1
        dsimp only at w2
        split at w2
        · rename_i kvs e1
          obtain ⟨ad, vs, rfl, hd, t⟩ := dct_at s2 r2 e1
          rcases dzip_val t k with ⟨q1, q2⟩ | ⟨v, p', q1, q2, q3⟩
          · refine ⟨ad, none, rfl, ?_, ?_⟩
            · have := DGet.k (k := Sum.inl k) hd
              rw [q1] at this
              exact this
            · rw [q2] at w2
              exact w2.pure s2 rfl
          · refine ⟨ad, some v, rfl, ?_, ?_⟩
            · have := DGet.k (k := Sum.inl k) hd
              rw [q1] at this
              exact this
            · rw [q2] at w2
              exact w2.pure s2 rfl
        · exact w2.elim
      | _ => exact w2.elim⟩⟩
theorem dt_inK (hu : X.A.units + 64 < cLine) (hi : DE X E a fa) (ho : DE X E b fb) (hm : behindInMarks .In b = false) : DT X E (.Compare a [.In] [b] pos) (dInK fa fb) := (pt_cmp (pc_din (by omega) hi ho) hm).imp fun σ H Q ⟨as, δ, S, sr, er, w⟩ => in_t sr er (w.mono fun _ _ _ _ _ _ _ _ _ q => ⟨_, rfl, q⟩)
theorem de_get2 (hu : X.A.units + 64 < cLine) (ho : DE X E a fa) (hi : DE X E b fb) (hx : DE X E c fc) (m : M2 X a "get" apos b c cpos) : DE X E (.Call (.Attribute a "get" apos) [b, c] [] cpos) (dGet2 fa fb fc) := (pe_dget2 (by omega) ho hi hx m).imp fun σ H Q ⟨as, δ, S, sr, er, w⟩ =>
  ⟨as, δ, S, sr, er, w.bind.mono fun _ _ _ _ _ _ _ _ _ ⟨as1, S1, d1, _, x1, s1, r1, w1⟩ => by
    split at w1
    · rename_i hd0
      obtain ⟨kv0, hk0⟩ := Option.isSome_iff_exists.mp hd0
      obtain ⟨ad0, vs0, rfl, hd0', t0⟩ := dct_at s1 r1 hk0
      refine ⟨ad0, rfl, .inl ⟨_, .inl hd0'⟩, as1, δ, S1, s1, er.mono x1.w, w1.bind.mono fun _ _ _ _ _ _ _ _ _ ⟨as2, S2, d2, _, x2, s2, r2, w2⟩ => ⟨as2, δ, S2, s2, (er.mono x1.w).mono x2.w, w2.bind.mono fun _ _ _ _ _ _ _ _ _ ⟨as3, S3, d3, _, x3, s3, r3, w3⟩ => ?_⟩⟩
      cases d2 with
      | c _ => exact w3.elim
      | p x =>
        cases x with
        | int k =>
          cases r2
          dsimp only at w3
          split at w3
          · rename_i kvs e1
            obtain ⟨ad, vs, e, hd, t⟩ := dct_at s3 ((r1.mono x2.w).mono x3.w) e1
            cases e
            rcases dzip_val t k with ⟨q1, q2⟩ | ⟨v, p', q1, q2, q3⟩
            · refine ⟨none, ?_, ?_⟩
              · have := DGet.k (k := Sum.inl k) hd
                rw [q1] at this
                exact this
              · rw [q2] at w3
                exact w3.pure s3 r3
            · refine ⟨some v, ?_, ?_⟩
              · have := DGet.k (k := Sum.inl k) hd
                rw [q1] at this
                exact this
              · rw [q2] at w3
                exact w3.pure s3 q3
          · exact w3.elim
        | _ => exact w3.elim
    · exact w1.elim⟩
end
section
variable {fo fi fx : Sig → AH → Res DV} {fs : Sig → AH → Res (List DV)} {δ : Sig} {S : AH} {kvs : List (Int × PV)} {d : DV} {k : Int} {x : PV}
noncomputable def kDict (ds : List DV) (S : AH) : Res DV := dDict (fun _ S => .ok ds S) [] S
@[simp] theorem ev_dict : dDict fs δ S = (fs δ S).bind kDict := rfl
theorem ev_kDict {xs : List PV} (e : pairsOf xs = some kvs) (nd : (kvs.map (·.1)).Nodup) : kDict [.p (.tup xs)] S = .ok (.c S.length) (S ++ [.dct kvs]) := by
  have e2 : pairsD (.p (.tup xs)) = some kvs := e
  unfold kDict dDict
  simp only [Res.bind, e2]
  rw [if_pos nd]
theorem ev_getK (ho : fo δ S = .ok d S) (hi : fi δ S = .ok (.p (.int k)) S) (hd : dctOf d S = some kvs) (hk : lookD kvs k = some x) : dGetK fo fi δ S = .ok (.p x) S := by
  unfold dGetK
  rw [ho]
  show (fi δ S).bind _ = _
  rw [hi]
  simp [Res.bind, hd, hk]
theorem ev_inK (ho : fo δ S = .ok d S) (hi : fi δ S = .ok (.p (.int k)) S) (hd : dctOf d S = some kvs) : dInK fi fo δ S = .ok (lookD kvs k).isSome S := by
  unfold dInK
  rw [hi]
  show (fo δ S).bind _ = _
  rw [ho]
  simp [Res.bind, hd]
theorem ev_get2 (ho : fo δ S = .ok d S) (hi : fi δ S = .ok (.p (.int k)) S) (hx : fx δ S = .ok (.p x) S) (hd : dctOf d S = some kvs) : dGet2 fo fi fx δ S = .ok (.p ((lookD kvs k).getD x)) S := by
  unfold dGet2
  rw [ho]
  show (if (dctOf d S).isSome = true then _ else _) = _
  rw [hd]
  simp only [Option.isSome_some, if_true]
  rw [hi]
  show (fx δ S).bind _ = _
  rw [hx]
  simp only [Res.bind, hd]
  cases lookD kvs k <;> rfl
end
end DL
/-! D26: defs within defs; t[::k] of a tuple with k 1 or -1. -/
namespace DL
open PySem PySem.Spec PyProof.Rows L2
/-! ### t[::k] -/
section
variable {prog : Program} {w : World} {A : Around} {E : Value → Shared → Prop} {s : Shared}
theorem applied_one {sl : Addr} {u : Tok} {n : Nat} {Q : Int × Int × Nat → Shared → Prop} (hs : s.heap.IsSliceOf sl .none .none (.int 1 u)) (h : Q (0, 1, n) s) :
    wpAny (model prog w) A (Builtin.Slice.sliceApplied (.ref sl) (pure (n : Int))) Q E s := by
  obtain ⟨os, hos, hcs, hds⟩ := id hs
  unfold Builtin.Slice.sliceApplied Builtin.Slice.sliceFields
  refine wpAny_bind (wpAny_bind (wpAny_field hos hds (x := .none) rfl (wpAny_bind (wpAny_field hos hds (x := .none) rfl (wpAny_bind (wpAny_field hos hds (x := .int 1 u) rfl (wpAny_pure ?_)))))))
  refine wpAny_bind (slicePart_int ?_)
  show wpAny _ _ (if ((1 : Int) == 0) = true then _ else _) _ _ s
  rw [if_neg (by decide)]
  refine wpAny_bind (slicePart_none (wpAny_bind (slicePart_none (wpAny_bind (wpAny_pure ?_)))))
  show wpAny _ _ (match Builtin.Slice.sliceAdjust none none 1 (n : Int) with | (lo, hi) => pure (lo, (1 : Int), Builtin.Slice.slicePlaces lo hi 1)) _ _ s
  have e1 : Builtin.Slice.sliceAdjust none none 1 (n : Int) = (0, (n : Int)) := by
    unfold Builtin.Slice.sliceAdjust
    simp
  rw [e1]
  show wpAny _ _ (pure ((0 : Int), (1 : Int), Builtin.Slice.slicePlaces 0 (n : Int) 1)) _ _ s
  have e2 : Builtin.Slice.slicePlaces 0 (n : Int) 1 = n := by
    unfold Builtin.Slice.slicePlaces
    rw [if_pos (by decide)]
    by_cases hn : n = 0
    · subst hn; rw [if_neg (by decide)]; rfl
    · rw [if_pos (by omega)]
      have : ((n : Int) - 0 - 1) / 1 + 1 = n := by rw [Int.ediv_one]; omega
      rw [this]; exact Int.toNat_natCast n
  rw [e2]
  exact wpAny_pure h
theorem getItem_tuple_one {t sl : Addr} {items : Array Value} {u : Tok} {Q : Value → Shared → Prop} (ht : IsTup s.heap t items) (hs : s.heap.IsSliceOf sl .none .none (.int 1 u))
    (h : Q (.ref t) s) : wpAny (model prog w) A (getItem (.ref t) (.ref sl)) Q E s := by
  obtain ⟨os, hos, hcs, hds⟩ := id hs
  have hTs : s.TypeIs (.ref sl) "slice" := ⟨os, hos, hcs⟩
  unfold getItem
  try with_reducible refine wpAny_holding ?_
  first | refine wpAny_bind (wpAny_pure ?_) | skip
  refine wpAny_bind (wpAny_sequenceKey ht.typeIs (by decide) ?_)
  refine wpAny_bind (wpAny_callSpecial?_slot (name := Str.ofString "__getitem__") ht.typeIs PyProof.Rows.slot_tuple_getitem
    (wpAny_call_entry PyProof.Rows.slot_tuple_getitem ht.typeIs entry_tuple_getitem ?_ (args_tuple_getitem _ _)))
  show wpAny _ _ (Builtin.Tuple.tupleItemsOf (.ref t) >>= _) _ _ s
  refine wpAny_bind (tupleItemsOf_ ht ?_)
  refine wpAny_bind (wpAny_typeOf hTs ?_)
  rw [if_pos (by decide)]
  refine wpAny_bind (applied_one hs ?_)
  have hyes : ((0 : Int) == 0 && (1 : Int) == 1 && items.size == items.size) = true := by simp
  show wpAny _ _ (if ((0 : Int) == 0 && (1 : Int) == 1 && items.size == items.size) = true then _ else _) _ _ s
  rw [if_pos hyes]
  refine wpAny_bind ?_
  show wpAny _ _ (typeOf (.ref t) >>= fun T => pure (T == .type "tuple")) _ _ s
  refine wpAny_bind (wpAny_typeOf ht.typeIs (wpAny_pure ?_))
  first
    | rw [if_pos (by decide)]
    | simp only [beq_self_eq_true, if_true]
  first
    | exact wpAny_bind (wpAny_rule (wpAny_pure ⟨_, rfl, wpAny_pure h⟩))
    | exact wpAny_bind (wpAny_rule (wpAny_bind (wpAny_pure (wpAny_pure ⟨_, rfl, wpAny_pure h⟩))))
end
def tStepT (K : PySem.W.Frag) (te : TE) (tk : TO) : TE := fun σ H Q => te σ H fun x H1 => tk σ H1 fun o H2 => ∃ a xs, x = .ref a ∧ SqT K H2 a xs ∧ ((o = some 1 ∧ Q (.ref a) H2) ∨ (o = some (-1) ∧ NewT H2 Q xs.reverse))
theorem pe_stepT {X : Cx} {e k : Expr} {te : TE} {tk : TO} {p3 pos : Pos} (he : PE X e te) (hk : PO X (some k) tk) : PE X (.Subscript e (.Slice none none (some k) p3) pos) (tStepT X.K te tk) := by
  refine ⟨fun pins s σ H Q I h => ?_⟩
  refine Subscript_ (thn (he.run pins s σ H _ I h) fun v s1 ⟨x, H1, I1, r1, q1⟩ => ?_)
  refine wpAny_Slice (thn (po_none.run pins s1 σ H1 (fun o H2 => o = none ∧ H2 = H1) I1 ⟨rfl, rfl⟩) fun vl s2 ⟨l, H2, I2, pl, el, e2⟩ => ?_)
  subst el e2
  refine thn (po_none.run pins s2 σ H2 (fun o H3 => o = none ∧ H3 = H2) I2 ⟨rfl, rfl⟩) fun vu s3 ⟨u, H3, I3, pu, eu, e3⟩ => ?_
  subst eu e3
  refine thn (hk.run pins s3 σ H3 _ I3 q1) fun vs s4 ⟨o, H4, I4, ps, q4⟩ => ?_
  obtain ⟨a, xs, ex, hx, q⟩ := q4
  subst ex
  cases r1
  have I5 : Inv X pins σ H4 { s4 with heap := s4.heap.push { cls := .type "slice", data := .fields #[vl, vu, vs] } } := I4.kept (t' := s4.toks) fun b ob q => Heap.get?_push_of_some _ q
  obtain ⟨its, r, ht, hz⟩ := I5.tuple hx
  have hlen := r.length
  cases pl
  cases pu
  rcases q with ⟨eo, q⟩ | ⟨eo, q⟩
  · subst eo
    obtain ⟨t5, rfl⟩ : ∃ t, vs = Value.int 1 t := by cases ps; exact ⟨_, rfl⟩
    show wpAny (model X.prog X.w) X.A (subscriptTail e (.Slice none none (some k) p3) (.ref a) (.ref s4.heap.objs.size)) (EP X pins σ Q) X.xe _
    refine tail_any (ops := [.ref a, .ref s4.heap.objs.size]) ht.typeIs (PyProof.Rows.slot_tuple_getitem.lookup) ?_ (by with_unfolding_all rfl)
    refine getItem_tuple_one ht (Heap.IsSliceOf.new _ .none .none _) ?_
    exact ⟨.ref a, H4, I5, rfl, q⟩
  · subst eo
    obtain ⟨t5, rfl⟩ : ∃ t, vs = Value.int (-1) t := by cases ps; exact ⟨_, rfl⟩
    show wpAny (model X.prog X.w) X.A (subscriptTail e (.Slice none none (some k) p3) (.ref a) (.ref s4.heap.objs.size)) (EP X pins σ Q) X.xe _
    refine tail_any (ops := [.ref a, .ref s4.heap.objs.size]) ht.typeIs (PyProof.Rows.slot_tuple_getitem.lookup) ?_ (by with_unfolding_all rfl)
    refine getItem_tuple_rev ht (Heap.IsSliceOf.new _ .none .none _) ?_ (by rw [List.size_toArray]; omega)
    exact lay_tup I5 (by rw [List.length_reverse]; exact hz) r.reverse q
/-- t[::k] -/
def dStep (fo fk : Sig → AH → Res DV) : Sig → AH → Res DV := fun δ S => (fo δ S).bind fun d S => (fk δ S).bind fun i S => match d, i with
  | .p (.tup xs), .p (.int 1) => .ok (.p (.tup xs)) S
  | .p (.tup xs), .p (.int (-1)) => .ok (.p (.tup xs.reverse)) S
  | _, _ => .bad
section
variable {X : Cx} {E : L2.St → XK} {a k : Expr} {p3 pos : Pos} {fa fk : Sig → AH → Res DV}
theorem de_step (ha : DE X E a fa) (hk : DE X E k fk) : DE X E (.Subscript a (.Slice none none (some k) p3) pos) (dStep fa fk) := (pe_stepT ha (po_some hk)).imp fun σ H Q ⟨as, δ, S, sr, er, w⟩ =>
  ⟨as, δ, S, sr, er, w.bind.mono fun _ _ _ _ _ _ _ _ _ ⟨as1, S1, d1, _, x1, s1, r1, w1⟩ => ⟨as1, δ, S1, s1, er.mono x1.w, w1.bind.mono fun _ _ _ _ _ _ _ _ _ ⟨as2, S2, d2, _, x2, s2, r2, w2⟩ => by
    split at w2
    · cases r2
      have r3 := r1.mono x2.w
      cases r3 with
      | tup h t => exact ⟨1, rfl, _, _, rfl, h.sq, .inl ⟨rfl, w2.pure s2 (.tup h t)⟩⟩
    · cases r2
      have r3 := r1.mono x2.w
      cases r3 with
      | tup h t => exact ⟨-1, rfl, _, _, rfl, h.sq, .inr ⟨rfl, WO.tup (ps := _) (S := S2) (fun as' H' b => w2 as' H' b) s2 (by rw [List.length_reverse]; exact h.1) t.reverse⟩⟩
    · exact w2.elim⟩⟩
end

/-! ### statements that keep a local def -/
open NdefX
/-- the slot i holds the cell of the function F -/
def Fr (i : Nat) (F : Addr → NF) (as : As) (H : Hp) (δ : Sig) : Prop := ∃ n a c', δ[i]? = some (some (.c n)) ∧ as.cells[n]? = some a ∧ H a = some (FnO a (F c')) ∧ H c' = some (LamX.CodeO c' (F c').qual)
theorem Fr.later {i : Nat} {F : Addr → NF} {as as' : As} {H H' : Hp} {δ δ' : Sig} (h : Fr i F as H δ) (x : Ext as H as' H') (k : δ'[i]? = δ[i]?) : Fr i F as' H' δ' := by
  obtain ⟨n, a, c', h1, h2, h3, h4⟩ := h
  exact ⟨n, a, c', by rw [k]; exact h1, x.get h2, x.exts a _ h3, x.exts c' _ h4⟩
def KpO (i : Nat) (δ : Sig) : Out → Prop
  | .nx δ' _ => δ'[i]? = δ[i]?
  | .bk δ' _ => δ'[i]? = δ[i]?
  | .ct δ' _ => δ'[i]? = δ[i]?
  | _ => True
/-- the slot i stays -/
def Kp (i : Nat) (f : Sig → AH → Out) : Prop := ∀ δ S, KpO i δ (f δ S)
def tSF (M : Wd) (E : L2.St → XK) (i : Nat) (F : Addr → NF) (f : Sig → AH → Out) : TS := fun D σ H => ∃ as δ S, SR M as H S ∧ ER M as H σ δ ∧ Fr i F as H δ ∧ WS M E D as H (f δ S)
abbrev DSF (X : Cx) (E : L2.St → XK) (i : Nat) (F : Addr → NF) (st : Stmt) (f : Sig → AH → Out) : Prop := PS X st (tSF (wd X) E i F f) ∧ Kp i f
abbrev DSFs (X : Cx) (E : L2.St → XK) (i : Nat) (F : Addr → NF) (st : List Stmt) (f : Sig → AH → Out) : Prop := PSs X st (tSF (wd X) E i F f) ∧ Kp i f
section
variable {X : Cx} {E : L2.St → XK} {i j : Nat} {F : Addr → NF} {st : Stmt} {rest body : List Stmt} {f g fb : Sig → AH → Out} {fe : Sig → AH → Res DV} {fc : Sig → AH → Res Bool} {fi : Sig → AH → Res Its'} {q : Pat} {c tg iter : Expr} {pos : Pos}
theorem dsf_of (h : DS X E st f) (k : Kp i f) : DSF X E i F st f := ⟨h.imp fun D σ H ⟨as, δ, S, sr, er, _, w⟩ => ⟨as, δ, S, sr, er, w⟩, k⟩
theorem kp_seq (h1 : Kp i f) (h2 : Kp i g) : Kp i (dSeq f g) := fun δ S => by
  have a := h1 δ S
  unfold dSeq
  cases e : f δ S with
  | nx δ1 S1 =>
    rw [e] at a
    have b := h2 δ1 S1
    show KpO i δ (g δ1 S1)
    cases e2 : g δ1 S1 with
    | nx δ2 S2 => rw [e2] at b; exact Eq.trans b a
    | bk δ2 S2 => rw [e2] at b; exact Eq.trans b a
    | ct δ2 S2 => rw [e2] at b; exact Eq.trans b a
    | _ => trivial
  | bk δ1 S1 => rw [e] at a; exact a
  | ct δ1 S1 => rw [e] at a; exact a
  | _ => trivial
theorem dsfs_one (h : DSF X E i F st f) : DSFs X E i F [st] f := ⟨pss_one h.1, h.2⟩
theorem dsfs_cons (h1 : DSF X E i F st f) (h2 : DSFs X E i F rest g) : DSFs X E i F (st :: rest) (dSeq f g) := ⟨(pss_cons h1.1 h2.1).imp fun D σ H ⟨as, δ, S, sr, er, fr, w⟩ => by
  refine ⟨as, δ, S, sr, er, fr, ?_⟩
  have kp := h1.2 δ S
  unfold dSeq at w
  split at w
  · rename_i δ1 S1 eq
    rw [eq] at kp ⊢
    exact fun as' H' σ' x s r => ⟨as', δ1, S1, s, r, fr.later x kp, WS.later x w⟩
  · rename_i n
    cases eq : f δ S with
    | nx δ1 S1 => exact absurd eq (n _ _)
    | rt d S1 => rw [eq] at w; exact w
    | rtT d S1 => rw [eq] at w; exact w
    | bk δ1 S1 => rw [eq] at w; exact w
    | ct δ1 S1 => rw [eq] at w; exact w
    | exc c p δ1 S1 => rw [eq] at w; exact w
    | bad => rw [eq] at w; exact w, kp_seq h1.2 h2.2⟩
theorem kp_out {α : Type} {r : Res α} {δ : Sig} {k : α → AH → Out} (h : ∀ a S, KpO i δ (k a S)) : KpO i δ (r.out δ k) := by
  cases r with
  | ok a S => exact h a S
  | exc c p S => trivial
  | bad => trivial
theorem kp_drop : Kp i (dDrop fe) := fun δ S => kp_out fun _ _ => rfl
theorem kp_ret : Kp i (dRet fe) := fun δ S => kp_out fun _ _ => trivial
theorem kp_pass : Kp i dPass := fun δ S => rfl
theorem kp_set (h : j ≠ i) : Kp i (dSet j fe) := fun δ S => kp_out fun d S => by
  show (δ.set j (some d))[i]? = δ[i]?
  rw [List.getElem?_set_ne h]
theorem kp_if (h1 : Kp i f) (h2 : Kp i g) : Kp i (dIf fc f g) := fun δ S => kp_out fun b S => by
  cases b with
  | true => exact h1 δ S
  | false => exact h2 δ S
theorem kp_whN (h : Kp i fb) : ∀ (n : Nat) (δ : Sig) (S : AH), KpO i δ (whN fc fb n δ S)
  | 0, δ, S => trivial
  | n + 1, δ, S => kp_out fun b S1 => by
    cases b with
    | false => exact rfl
    | true =>
      show KpO i δ (match fb δ S1 with
        | .nx δ2 S2 => whN fc fb n δ2 S2
        | .ct δ2 S2 => whN fc fb n δ2 S2
        | .bk δ2 S2 => .nx δ2 S2
        | o => o)
      have a := h δ S1
      have go : ∀ (δ2 : Sig) (S2 : AH), δ2[i]? = δ[i]? → KpO i δ (whN fc fb n δ2 S2) := fun δ2 S2 e => by
        have b := kp_whN h n δ2 S2
        cases e2 : whN fc fb n δ2 S2 with
        | nx δ3 S3 => rw [e2] at b; exact Eq.trans b e
        | bk δ3 S3 => rw [e2] at b; exact Eq.trans b e
        | ct δ3 S3 => rw [e2] at b; exact Eq.trans b e
        | _ => trivial
      cases e : fb δ S1 with
      | nx δ2 S2 => rw [e] at a; exact go _ _ a
      | ct δ2 S2 => rw [e] at a; exact go _ _ a
      | bk δ2 S2 => rw [e] at a; exact a
      | _ => trivial
theorem kp_while (h : Kp i fb) : Kp i (dWhile fc fb) := fun δ S => by
  by_cases e : ∃ n, whN fc fb n δ S ≠ .bad
  · obtain ⟨n, hn⟩ := e
    rw [dWhile_at hn]
    exact kp_whN h n δ S
  · rw [dWhile_bad fun n => Classical.byContradiction fun z => e ⟨n, z⟩]
    trivial
end

mutual
theorem set_keep {i : Nat} : ∀ (q : Pat) {d : DV} {δ δ' : Sig}, q.set d δ = some δ' → i ∉ q.slots → δ'[i]? = δ[i]?
  | .nm j, d, δ, δ', e, h => by
    simp only [Pat.set, Option.some.injEq] at e
    subst e
    rw [List.getElem?_set_ne fun z => h (by simp [Pat.slots, z])]
  | .tp ps, d, δ, δ', e, h => by
    unfold Pat.set at e
    split at e
    · exact sets_keep ps e h
    · exact sets_keep ps e h
    · cases e
theorem sets_keep {i : Nat} : ∀ (qs : List Pat) {ds : List DV} {δ δ' : Sig}, Pat.sets qs ds δ = some δ' → i ∉ Pat.slotss qs → δ'[i]? = δ[i]?
  | [], [], δ, δ', e, _ => by
    simp only [Pat.sets, Option.some.injEq] at e
    rw [e]
  | [], _ :: _, δ, δ', e, _ => by simp [Pat.sets] at e
  | q :: qs, [], δ, δ', e, _ => by simp [Pat.sets] at e
  | q :: qs, x :: xs, δ, δ', e, h => by
    simp only [Pat.sets, Option.bind_eq_some_iff] at e
    obtain ⟨δ1, e1, e2⟩ := e
    rw [sets_keep qs e2 fun z => h (by simp [Pat.slotss, z]), set_keep q e1 fun z => h (by simp [Pat.slotss, z])]
end
section
variable {X : Cx} {E : L2.St → XK} {l j : Nat} {F : Addr → NF} {st : Stmt} {rest body : List Stmt} {f g fb : Sig → AH → Out} {fe : Sig → AH → Res DV} {fc : Sig → AH → Res Bool} {fi : Sig → AH → Res Its'} {q : Pat} {c tg iter e : Expr} {pos : Pos}
theorem kp_forGo {ck : AH → Prop} (h : Kp l fb) (hq : l ∉ q.slots) : ∀ (xs : List DV) (δ : Sig) (S : AH), KpO l δ (forGo ck q fb xs δ S)
  | [], δ, S => by
    unfold forGo
    split
    · exact rfl
    · trivial
  | x :: xs, δ, S => by
    unfold forGo
    split
    · cases e : q.set x δ with
      | none => trivial
      | some δ1 =>
        have k1 := set_keep q e hq
        have a := h δ1 S
        have go : ∀ (δ2 : Sig) (S2 : AH), δ2[l]? = δ1[l]? → KpO l δ (forGo ck q fb xs δ2 S2) := fun δ2 S2 e2 => by
          have b := kp_forGo (ck := ck) h hq xs δ2 S2
          cases e3 : forGo ck q fb xs δ2 S2 with
          | nx δ3 S3 => rw [e3] at b; exact Eq.trans b (Eq.trans e2 k1)
          | bk δ3 S3 => rw [e3] at b; exact Eq.trans b (Eq.trans e2 k1)
          | ct δ3 S3 => rw [e3] at b; exact Eq.trans b (Eq.trans e2 k1)
          | _ => trivial
        show KpO l δ (match fb δ1 S with
          | .nx δ2 S2 => forGo ck q fb xs δ2 S2
          | .ct δ2 S2 => forGo ck q fb xs δ2 S2
          | .bk δ2 S2 => .nx δ2 S2
          | o => o)
        cases eb : fb δ1 S with
        | nx δ2 S2 => rw [eb] at a; exact go _ _ a
        | ct δ2 S2 => rw [eb] at a; exact go _ _ a
        | bk δ2 S2 => rw [eb] at a; exact Eq.trans a k1
        | _ => trivial
    · trivial
theorem kp_for (h : Kp l fb) (hq : l ∉ q.slots) : Kp l (dFor fi q fb) := fun δ S => kp_out fun x S1 => kp_forGo h hq x.1 δ S1
theorem dsf_while (g : Gd X E) (hc : DT X E c fc) (hb : DSFs X E l F body fb) : DSF X E l F (.While c body [] pos) (dWhile fc fb) :=
  ⟨(ps_while g.po hc hb.1).imp fun D σ H ⟨as, δ, S, sr, er, fr, w⟩ => by
  have ex : ∃ n, whN fc fb n δ S ≠ .bad := by
    refine Classical.byContradiction fun q => ?_
    rw [dWhile_bad fun n => Classical.byContradiction fun z => q ⟨n, z⟩] at w
    exact w
  obtain ⟨n, hn⟩ := ex
  rw [dWhile_at hn] at w
  refine ⟨fun m σ H => ∃ as δ S, SR (wd X) as H S ∧ ER (wd X) as H σ δ ∧ Fr l F as H δ ∧ WS (wd X) E D as H (whN fc fb m δ S), ⟨n, as, δ, S, sr, er, fr, w⟩, ?_⟩
  rintro m σ H ⟨as, δ, S, sr, er, fr, w⟩
  cases m with
  | zero => exact w.elim
  | succ m =>
    unfold whN at w
    refine ⟨as, δ, S, sr, er, (w.bind er).mono fun _ _ _ H1 k _ _ _ _ ⟨as1, S1, d1, _, x1, s1, r1, w1⟩ => ?_⟩
    cases r1
    cases k with
    | false => exact w1.here s1 (er.mono x1.w)
    | true =>
      rw [if_pos rfl] at w1 ⊢
      have fr1 := fr.later x1 rfl
      refine ⟨fun σ H => ∃ as δ S, SR (wd X) as H S ∧ ER (wd X) as H σ δ ∧ Fr l F as H δ ∧ WS (wd X) E D as H (whN fc fb m δ S), fun σ' H' h => ⟨m, Nat.lt_succ_self m, h⟩, as1, δ, S1, s1, er.mono x1.w, fr1, ?_⟩
      have kp := hb.2 δ S1
      cases eb : fb δ S1 with
      | nx δ4 S4 =>
        rw [eb] at w1 kp
        exact fun as' H' σ' x s r => ⟨as', δ4, S4, s, r, fr1.later x kp, WS.later x w1⟩
      | ct δ4 S4 =>
        rw [eb] at w1 kp
        exact fun as' H' σ' x s r => ⟨as', δ4, S4, s, r, fr1.later x kp, WS.later x w1⟩
      | bk δ4 S4 =>
        rw [eb] at w1
        exact fun as' H' σ' x s r => w1 as' H' σ' x s r
      | rt d S4 =>
        rw [eb] at w1
        exact fun as' H' v x s r => w1 as' H' v x s r
      | rtT d S4 =>
        rw [eb] at w1
        exact fun as' H' v x s r => w1 as' H' v x s r
      | exc c p δ4 S4 =>
        rw [eb] at w1
        exact fun as' H' σ' cls dd x s r => w1 as' H' σ' cls dd x s r
      | bad => rw [eb] at w1; exact w1.elim, kp_while hb.2⟩
theorem dsf_for (g : Gd X E) (hi : DI X E tg iter fi) (hg : DG X tg q) (hb : DSFs X E l F body fb) (hq : l ∉ q.slots := by decide) (hs : ∀ x, foldedSetIterable iter X.env x = pure x := by intro _; rfl) : DSF X E l F (.For tg iter body [] pos) (dFor fi q fb) :=
  ⟨(ps_for g.po g.calm hi hg hb.1 hs).imp fun D σ H ⟨as, δ, S, sr, er, fr, w⟩ =>
  ⟨as, δ, S, sr, er, (w.bind er).mono fun _ _ _ H1 J _ _ _ _ ⟨as1, S1, x, _, e1, s1, y1, w1⟩ => by
    obtain ⟨xs, ck⟩ := x
    dsimp only at y1 w1
    refine ⟨fun i m σ H => m = xs.length - i ∧ i ≤ xs.length ∧ ∃ as' δ' S', Ext as1 H1 as' H ∧ SR (wd X) as' H S' ∧ ER (wd X) as' H σ δ' ∧ Fr l F as' H δ' ∧ WS (wd X) E D as' H (forGo ck q fb (xs.drop i) δ' S'), ⟨xs.length, rfl, Nat.zero_le _, as1, δ, S1, Ext.refl _ _, s1, er.mono e1.w, fr.later e1 rfl, w1⟩, ?_⟩
    rintro i m σ H ⟨rfl, hi, as2, δ2, S2, e2, s2, er2, fr2, w2⟩
    by_cases hlt : i < xs.length
    · have hx : xs[i]? = some xs[i] := List.getElem?_eq_getElem hlt
      have hd : xs.drop i = xs[i] :: xs.drop (i + 1) := List.drop_eq_getElem_cons hlt
      rw [hd] at w2
      unfold forGo at w2
      have hck : ck S2 := by
        refine Classical.byContradiction fun n => ?_
        rw [if_neg n] at w2
        exact w2
      rw [if_pos hck] at w2
      refine .inr ⟨y1.go _ _ _ e2.w s2 hck i hlt, fun σ H => i + 1 ≤ xs.length ∧ ∃ as' δ' S', Ext as1 H1 as' H ∧ SR (wd X) as' H S' ∧ ER (wd X) as' H σ δ' ∧ Fr l F as' H δ' ∧ WS (wd X) E D as' H (forGo ck q fb (xs.drop (i + 1)) δ' S'), fun σ' H' n => ⟨xs.length - (i + 1), by omega, rfl, n.1, n.2⟩, fun v H' yv => ?_⟩
      obtain ⟨e3, s3, r3⟩ := y1.yld _ _ _ e2.w s2 hck i _ v H' hx yv
      cases eq : q.set xs[i] δ2 with
      | none => rw [eq] at w2; exact w2.elim
      | some δ3 =>
        rw [eq] at w2
        dsimp only at w2
        have fr3 := fr2.later e3 (set_keep q eq hq)
        refine tPat_ok (M := wd X) q (er2.mono e3.w) r3 eq fun σ3 er3 _ => ⟨as2, δ3, S2, s3, er3, fr3, ?_⟩
        have kp := hb.2 δ3 S2
        cases eb : fb δ3 S2 with
        | nx δ4 S4 =>
          rw [eb] at w2 kp
          exact fun as' H' σ' x s r => ⟨hlt, as', δ4, S4, (e2.trans e3).trans x, s, r, fr3.later x kp, WS.later (e3.trans x) w2⟩
        | ct δ4 S4 =>
          rw [eb] at w2 kp
          exact fun as' H' σ' x s r => ⟨hlt, as', δ4, S4, (e2.trans e3).trans x, s, r, fr3.later x kp, WS.later (e3.trans x) w2⟩
        | bk δ4 S4 =>
          rw [eb] at w2
          exact fun as' H' σ' x s r => w2 as' H' σ' (e3.trans x) s r
        | rt d S4 =>
          rw [eb] at w2
          exact fun as' H' v x s r => w2 as' H' v (e3.trans x) s r
        | rtT d S4 =>
          rw [eb] at w2
          exact fun as' H' v x s r => w2 as' H' v (e3.trans x) s r
        | exc c p δ4 S4 =>
          rw [eb] at w2
          exact fun as' H' σ' cls dd x s r => w2 as' H' σ' cls dd (e3.trans x) s r
        | bad => rw [eb] at w2; exact w2.elim
    · have hi' : i = xs.length := by omega
      subst hi'
      rw [List.drop_length] at w2
      unfold forGo at w2
      have hck : ck S2 := by
        refine Classical.byContradiction fun n => ?_
        rw [if_neg n] at w2
        exact w2
      rw [if_pos hck] at w2
      exact .inl ⟨y1.stop _ _ _ e2.w s2 hck, w2.here s2 er2⟩⟩, kp_for hb.2 hq⟩
/-! ### calls of a local def -/
def tDF (M : Wd) (E : L2.St → XK) (l : Nat) (F : Addr → NF) (f : Sig → AH → Res DV) : TE := fun σ H Q => ∃ as δ S, SR M as H S ∧ ER M as H σ δ ∧ Fr l F as H δ ∧ WR M (E σ) (DVR M) as H (f δ S) Q
theorem dsf_expr (he : PE X e (tDF (wd X) E l F fe)) (hs : swapsWith e none pos.line X.env = pure false := by rfl) : DSF X E l F (.Expr e pos) (dDrop fe) := ⟨(ps_expr he hs).imp fun D σ H ⟨as, δ, S, sr, er, fr, w⟩ =>
  ⟨as, δ, S, sr, er, fr, (w.bind er).mono fun _ _ _ _ _ _ _ _ _ ⟨as1, S1, d1, _, x1, s1, r1, w1⟩ => w1.here s1 (er.mono x1.w)⟩, kp_drop⟩
end
/-- what a slot holds -/
def slotD (δ : Sig) (j : Nat) : Option DV := match δ[j]? with
  | some o => o
  | none => none
def CRs (M : Wd) (as : As) (H : Hp) : List (Option V) → List (Option DV) → Prop := Paired fun (w : Option V) (c : Option DV) => ∀ d, c = some d → ∃ v, w = some v ∧ DVR M as H v d
def spN (M : Wd) (d : List DV → List (Option DV) → AH → Res DV) : Addr → List (Option V) → Sp := fun _ ws vs H Q E => ∃ as ds cs S, SR M as H S ∧ DVRs M as H vs ds ∧ CRs M as H ws cs ∧ WR M E (DVR M) as H (d ds cs S) Q
def dCallN (js : List Nat) (d : List DV → List (Option DV) → AH → Res DV) (fs : Sig → AH → Res (List DV)) : Sig → AH → Res DV := fun δ S => (fs δ S).bind fun ds S => d ds (js.map (slotD δ)) S
theorem crs_slots {M : Wd} {as : As} {H : Hp} {σ : L2.St} {δ : Sig} (er : ER M as H σ δ) : ∀ js : List Nat, CRs M as H (js.map (slotAt σ)) (js.map (slotD δ))
  | [] => .nil
  | j :: js => .cons (fun d e => by
    unfold slotD at e
    cases e2 : δ[j]? with
    | none => rw [e2] at e; cases e
    | some o =>
      rw [e2] at e
      have e : o = some d := e
      subst e
      obtain ⟨v, h1, h2⟩ := er.get j d e2
      exact ⟨v, slotAt_of h1, h2⟩) (crs_slots er js)
section
variable {X : Cx} {E0 : XK} {l k m : Nat} {F : Addr → NF} {x : Str} {ps fr : List Str} {js : List Nat} {d : List DV → List (Option DV) → AH → Res DV} {fs : Sig → AH → Res (List DV)} {e : Expr} {es : List Expr} {p pos : Pos}
theorem pe_callN {cl : List (Str × Addr)} (g : Gd X (fun _ => E0)) (Fn : ∀ f c', NOk X.prog X.w X.K X.mg X.base (L2.CX X.prog X.w) k f (F c') ps fr (spN (wd X) d f)) (hcl : ∀ c', (F c').cl = cl) (hc : ∀ c', (F c').c = c') (cp : X.Ok → Caps X cl fr js) (hr : Room m X.A) (hk : k ≤ m) (hN : X.N[l]? = some x) (hv : Vis X.env.scope x) (ha : DA X (fun _ => E0) (e :: es) fs)
    (hd : (x == ("__debug__" : Str)) = false := by decide) (hcd : (x == ("__classdict__" : Str)) = false := by decide)
    (he : starEach (e :: es) X.env = (false, eval e X.env) :: starEach es X.env := by rfl) (hpl : (backTo pos (starEach es X.env)).any (·.1) = false := by rfl) :
    PE X (.Call (.Name x p) (e :: es) [] pos) (tDF (wd X) (fun _ => E0) l F (dCallN js d fs)) :=
  (pe_calln (E := E0) (sp := fun f _ => spN (wd X) d f) Fn hcl cp hr hk (fun pins σ H s e s' I c => g.pass σ pins H s e s' I c) hN hv ha hd hcd he hpl).imp fun σ H Q ⟨as, δ, S, sr, er, fr, w⟩ => by
    obtain ⟨n, a, c', h1, h2, h3, h4⟩ := id fr
    obtain ⟨v, hv1, a2, ha2, rfl⟩ := er.get l _ h1
    rw [h2] at ha2
    cases ha2
    refine ⟨a, c', hv1, h3, as, δ, S, sr, er, w.bind.mono fun _ _ _ _ _ _ _ _ _ ⟨as1, S1, ds, _, x1, s1, r1, w1⟩ => ⟨x1.exts a _ h3, by rw [hc]; exact x1.exts c' _ h4, as1, ds, _, S1, s1, r1, crs_slots (er.mono x1.w) js, w1⟩⟩
end
/-! ### the body of a local def -/
noncomputable def dLoc (nN n m : Nat) (keep : Bool) (body : Sig → AH → Out) : List DV → List (Option DV) → AH → Res DV := fun ds cs S => if ds.length = n ∧ cs.length = m then gcK S keep (body (ds.map some ++ (cs ++ List.replicate (nN - n - m) none)) S) else .bad
theorem er_startF {M : Wd} {as : As} {H : Hp} {N : List Str} {vs : List V} {ds : List DV} {ws : List (Option V)} {cs : List (Option DV)} (r : DVRs M as H vs ds) (q : CRs M as H ws cs) {n m : Nat} (hn : ds.length = n) (hm : cs.length = m) : ER M as H (startF N vs ws) (ds.map some ++ (cs ++ List.replicate (N.length - n - m) none)) := by
  have hl : vs.length = ds.length := Paired.length r
  have hw : ws.length = cs.length := Paired.length q
  unfold startF
  refine ⟨by simp [hl, hw, hn, hm], fun i d e => ?_⟩
  by_cases hi : i < ds.length
  · rw [List.getElem?_append_left (by simpa using hi), List.getElem?_map] at e
    have hi' : i < vs.length := by omega
    rw [List.getElem?_append_left (by simpa using hi'), List.getElem?_map]
    rw [List.getElem?_eq_getElem hi] at e
    rw [List.getElem?_eq_getElem hi']
    have go : ∀ {vs : List V} {ds : List DV}, DVRs M as H vs ds → ∀ (i : Nat) (h1 : i < vs.length) (h2 : i < ds.length), DVR M as H vs[i] ds[i] := by
      intro vs ds r
      induction r with
      | nil => intro i h1; exact absurd h1 (by simp)
      | cons h t ih =>
        intro i h1 h2
        cases i with
        | zero => exact h
        | succ i => exact ih i (by simpa using h1) (by simpa using h2)
    have e' : ds[i] = d := by simpa using e
    exact ⟨vs[i], rfl, by rw [← e']; exact go r i hi' hi⟩
  · have hi2 : ¬ i < vs.length := by omega
    rw [List.getElem?_append_right (by simpa using hi), List.length_map] at e
    rw [List.getElem?_append_right (by simpa using hi2), List.length_map, hl]
    by_cases hj : i - ds.length < cs.length
    · rw [List.getElem?_append_left hj] at e
      rw [List.getElem?_append_left (by omega)]
      have go : ∀ {ws : List (Option V)} {cs : List (Option DV)}, CRs M as H ws cs → ∀ (j : Nat) (d : DV), cs[j]? = some (some d) → ∃ v, ws[j]? = some (some v) ∧ DVR M as H v d := by
        intro ws cs q
        induction q with
        | nil => intro j d h1; simp at h1
        | cons h t ih =>
          intro j d h1
          cases j with
          | zero =>
            obtain ⟨v, e1, e2⟩ := h d (by simpa using h1)
            exact ⟨v, by simpa using e1, e2⟩
          | succ j => simpa using ih j d (by simpa using h1)
      exact go q _ d e
    · rw [List.getElem?_append_right (by omega), List.getElem?_replicate] at e
      split at e <;> cases e
section
variable {P : Program} {w : World} {K : PySem.W.Frag} {mg : Str → Option Value} {base : Heap}
/-- a local def by its body -/
theorem loc_ok {F : NF} {f : Addr} {N ps fr : List Str} {k n m nN : Nat} {keep : Bool} {body : Sig → AH → Out} (S : NScope N ps fr F.scope) (hb : ∀ (doc pm ctv : Value) (us : List Value), us.length = ps.length → bindArgs (F.fd doc pm ctv) ⟨us, []⟩ = pure (ps.zip us)) (hn : n = ps.length) (hm : m = fr.length) (hN : nN = N.length)
    (hbody : ∀ (A : Around) (outer : List Env) (s : Shared) (H : Hp) (E : XK), Room k (A.deeper (envF F f s.heap.objs.size)) → Gd (ncx (L2.CX P w) P w K mg base N F f A outer s H E) (fun _ => E) → DSs (ncx (L2.CX P w) P w K mg base N F f A outer s H E) (fun _ => E) F.body body) :
    NOk P w K mg base (L2.CX P w) (k + 1) f F ps fr (spN ⟨K, mg⟩ (dLoc nN n m keep body) f) := by
  subst hn hm hN
  refine nok_of S hb (fun ws vs H Q E h => ?_) fun A outer s H vs ws Q E hr hf hc hw h => ?_
  · obtain ⟨as, ds, cs, S, sr, r, q, w⟩ := h
    unfold dLoc at w
    split at w
    · rename_i e
      rw [← e.1]
      exact Paired.length r
    · exact w.elim
  · refine ⟨_, hbody A outer s H E hr ⟨rfl, takes_of rfl rfl rfl rfl, passes_of rfl⟩, ?_⟩
    obtain ⟨as, ds, cs, S, sr, r, q, w⟩ := h
    unfold dLoc at w
    split at w
    · rename_i e
      exact ⟨as, _, S, sr, er_startF r q e.1 e.2, gc_ok sr w⟩
    · exact w.elim
end
end DL
/-! D27: the def statement within a def; a def whose code object is known; the end with the table of one def. -/
namespace DL
open PySem PySem.Spec PyProof.Rows L2 NdefX LamX
/-! ### the statement -/
section
variable {X : Cx} {pins : List (Addr × Obj)} {σ : L2.St} {H : Hp} {s : Shared}
theorem ndef_makeP {q : Str} {c P : Addr} {name : Str} {params : Arguments} {body : List Stmt} {scope : Scope} {pos : Pos} {E : Value → Shared → Prop} {Q : Value → Shared → Prop} (I : Inv X pins σ H s) (TB : TabB X.base X.mg c P) (hcode : X.env.code = .ref c)
    (hn : q = X.env.qual ++ name) (hT : TabN H P (fun _ _ => q)) (hfree : ∀ y ∈ scope.names, y.2 = .free → ∃ c, X.env.cells.lookup y.1 = some c)
    (h : ∀ (f c' : Addr) (H1 : Hp) (s' : Shared), Inv X pins σ H1 s' → (∀ b o, b ≠ P → H b = some o → H1 b = some o) → TabN H1 P (fun _ _ => q) → H f = none → H1 f = some (FnO f ⟨name, X.env.qual ++ name, params, body, scope, cloFrom X.env.cells scope.names [], c'⟩) → H1 c' = some (CodeO c' (X.env.qual ++ name)) → Q (.ref f) s') :
    wpAny (model X.prog X.w) X.A (makeFunction name (X.env.qual ++ name) params (.stmts body) scope X.env [] [] [] pos pos.line) Q E s := by
  obtain ⟨ps, hP, ht, ha⟩ := id hT
  have bP : s.heap.BuiltinsAt X.mg P := TB.bm.keeps I.bk
  have hP' : s.heap.get? P = some { cls := .none, data := .fields ps } := I.hok P _ hP
  cases hc : codeAmong pos ps.toList with
  | none =>
    refine PySem.W.makeFunction_K (mg := X.mg) (c := c) (P := P) (ps := ps) (closure_ok hfree) I.ok.glob (I.mod.glob.keeps I.bk) hcode (TB.code.keeps I.bk) hP' ht hc TB.gP bP fun c' ctv doc h' tk hx hge hlt hrec htb => ?_
    obtain ⟨c2, oc, vs, t, e2, hoc, hd, hv⟩ := hrec
    cases e2
    have nC : H c' = none := I.hok.fresh hge
    have I1 := inv_table (t' := tk) (more := #[rawInt pos.line, rawInt pos.col, .ref c']) (h' := h') I hP (fun b o hb e => hx b o hb e) htb hge ⟨oc, vs, t, hoc, hd, hv⟩
    have hE : ∀ b o, b ≠ P → H b = some o → (upd (upd H P (.tbl (ps ++ #[rawInt pos.line, rawInt pos.col, .ref c']))) c' (CodeO c' (X.env.qual ++ name))) b = some o := fun b o n e => by
      rw [upd_ne (ne_of_none e nC), upd_ne n]
      exact e
    have eL : (ps ++ #[rawInt pos.line, rawInt pos.col, .ref c']).toList = ps.toList ++ [rawInt pos.line, rawInt pos.col, .ref c'] := by simp
    have T1 : TabN (upd (upd H P (.tbl (ps ++ #[rawInt pos.line, rawInt pos.col, .ref c']))) c' (CodeO c' (X.env.qual ++ name))) P (fun _ _ => q) := by
      refine ⟨_, by rw [upd_ne (ne_of_none hP nC), upd_same], by rw [eL]; exact PySem.TriplesOk_snoc _ _ _ _ ht, fun p' cv hcv => ?_⟩
      rw [eL] at hcv
      rcases among_app2 _ ht hcv with z | ⟨z, z1, z2⟩
      · obtain ⟨c0, e1, e2⟩ := ha p' cv z
        refine ⟨c0, e1, hE _ _ (fun z => ?_) e2⟩
        rw [z, hP] at e2
        exact codeO_ne _ (Option.some.inj e2).symm
      · refine ⟨c', z, ?_⟩
        rw [hn]
        exact upd_same
    have nF := I1.hok.fresh (Nat.le_refl _)
    have I2 := inv_fn (F := ⟨name, X.env.qual ++ name, params, body, scope, cloFrom X.env.cells scope.names [], c'⟩) (t' := tk) (doc := doc) (pm := (X.mg "__name__").getD .none) (ctv := ctv) I1 rfl
    refine h h'.objs.size c' _ _ I2 (fun b o n e => ?_) (T1.ext fun b o e => ?_) (I.hok.fresh (Nat.le_trans hge (Nat.le_of_lt hlt))) upd_same ?_
    · have e1 := hE b o n e
      exact (upd_ne (ne_of_none e1 nF)).trans e1
    · exact (upd_ne (ne_of_none e nF)).trans e
    · exact (upd_ne (Nat.ne_of_lt hlt)).trans upd_same
  | some cv =>
    obtain ⟨c', e, hco⟩ := ha pos cv hc
    subst e
    rw [hn] at hco
    refine PySem.W.makeFunction_hit (mg := X.mg) (c := c) (P := P) (ps := ps) (closure_ok hfree) I.ok.glob (I.mod.glob.keeps I.bk) hcode (TB.code.keeps I.bk) hP' ht hc bP fun ctv doc h' tk hx hsz => ?_
    have I1 : Inv X pins σ H { s with heap := h', toks := tk } := I.kept hx
    have nF : H h'.objs.size = none := I1.hok.fresh (Nat.le_refl _)
    have I2 := inv_fn (F := ⟨name, X.env.qual ++ name, params, body, scope, cloFrom X.env.cells scope.names [], c'⟩) (t' := tk) (doc := doc) (pm := (X.mg "__name__").getD .none) (ctv := ctv) I1 rfl
    refine h h'.objs.size c' _ _ I2 (fun b o n e => ?_) (hT.ext fun b o e => ?_) nF upd_same ?_
    · exact (upd_ne (ne_of_none e nF)).trans e
    · exact (upd_ne (ne_of_none e nF)).trans e
    · exact (upd_ne (ne_of_none hco nF)).trans hco
end
def tNdefP (P : Addr) (q : Str) (i : Nat) (mk : Addr → NF) : TS := fun D σ H => TabN H P (fun _ _ => q) ∧ ∀ (f c' : Addr) (H1 : Hp), (∀ b o, b ≠ P → H b = some o → H1 b = some o) → TabN H1 P (fun _ _ => q) → H f = none → H1 f = some (FnO f (mk c')) → H1 c' = some (CodeO c' (mk c').qual) → D.nx (σ.set i (some (.ref f))) H1
theorem ps_ndefP {X : Cx} {q : Str} {c P : Addr} {name : Str} {params : Arguments} {body : List Stmt} {scope : Scope} {pos : Pos} {i : Nat} (TB : TabB X.base X.mg c P) (hcode : X.env.code = .ref c) (hn : q = X.env.qual ++ name)
    (hfree : ∀ y ∈ scope.names, y.2 = .free → X.env.scope.names.lookup y.1 = some .cell ∨ X.env.scope.names.lookup y.1 = some .free) (hd0 : params.defaults = []) (hk0 : params.kw_defaults = []) (ha : annTrees params none X.env = [])
    (hN : X.N.Nodup) (hi : X.N[i]? = some name) (hx : Loc X.env.scope name) (hf : X.fn name = true ∨ X.env.scope.names.lookup name = some .local) :
    PS X (.FunctionDef name params body [] none [] scope none name pos) (tNdefP P q i fun c' => ⟨name, X.env.qual ++ name, params, body, scope, cloFrom X.env.cells scope.names [], c'⟩) := by
  refine ⟨fun pins s σ H D I h => ?_⟩
  obtain ⟨hT, h⟩ := h
  have hq : qualnameIn X.env name name = X.env.qual ++ name := by
    have hk : X.env.kindOf name = some .local ∨ X.env.kindOf name = some .cell := hx
    unfold qualnameIn
    rcases hk with k | k <;> rw [k] <;> first | rfl | exact if_neg (by decide)
  refine PySem.W.nestDef_K hd0 hk0 ha ?_
  rw [hq]
  have hfr : ∀ y ∈ scope.names, y.2 = .free → ∃ c, X.env.cells.lookup y.1 = some c := fun y hy e => (hfree y hy e).elim (fun z => I.ok.has _ (.inl z)) fun z => I.ok.has _ (.inr z)
  refine ndef_makeP I TB hcode hn hT hfr fun f c' H1 s' I1 eN T1 f0 f1 c1 => ?_
  exact store_ok I1 hN hi hx (v := .ref f) rfl (fun s'' J => ⟨_, H1, J, h f c' H1 eN T1 f0 f1 c1⟩) hf
theorem ps_ndefPS {X : Cx} {st : Stmt} {q : Str} {c P : Addr} {name : Str} {pos : Pos} {i : Nat} (hst : st = .FunctionDef name (C8.fnArgs st) (C8.fnBody st) [] none [] (C8.fnScope st) none name pos) (TB : TabB X.base X.mg c P) (hcode : X.env.code = .ref c) (hn : q = X.env.qual ++ name)
    (hfree : ∀ y ∈ (C8.fnScope st).names, y.2 = .free → X.env.scope.names.lookup y.1 = some .cell ∨ X.env.scope.names.lookup y.1 = some .free) (hd0 : (C8.fnArgs st).defaults = []) (hk0 : (C8.fnArgs st).kw_defaults = []) (ha : annTrees (C8.fnArgs st) none X.env = [])
    (hN : X.N.Nodup) (hi : X.N[i]? = some name) (hx : Loc X.env.scope name) (hf : X.fn name = true ∨ X.env.scope.names.lookup name = some .local) :
    PS X st (tNdefP P q i (NF.of st name (X.env.qual ++ name) (cloFrom X.env.cells (C8.fnScope st).names []))) := by
  have z := ps_ndefP (X := X) (body := C8.fnBody st) (pos := pos) TB hcode hn hfree hd0 hk0 ha hN hi hx hf
  rw [← hst] at z
  exact z
/-- the table is the one of the def x -/
theorem tabK_uniq {M : Wd} {x : Str} {a f c P : Addr} {o : Obj} {fd : FuncData} (h : TabK M x a) (h1 : M.mg x = some (.ref f)) (h2 : M.K.lookup f = some o) (h3 : o.data = .func fd) (h4 : fd.code = .ref c) (h5 : PySem.W.codeHdIn M.K c P = true) : a = P := by
  obtain ⟨f', c', o', fd', k1, k2, k3, k4, k5⟩ := h
  rw [h1] at k1
  cases k1
  rw [h2] at k2
  cases k2
  rw [h3] at k3
  cases k3
  rw [h4] at k4
  cases k4
  unfold PySem.W.codeHdIn at h5 k5
  split at k5
  · rename_i vs _ hk
    rw [hk] at h5
    simp only [Bool.and_eq_true] at k5 h5
    obtain ⟨⟨⟨⟨⟨e1, _⟩, _⟩, _⟩, _⟩, _⟩ := k5
    obtain ⟨⟨⟨⟨⟨e2, _⟩, _⟩, _⟩, _⟩, _⟩ := h5
    cases hv : (vs[11]? : Option Value) with
    | none => rw [hv] at e1; cases e1
    | some v =>
      rw [hv] at e1 e2
      cases v with
      | ref b => exact (beq_iff_eq.mp e1).symm.trans (beq_iff_eq.mp e2)
      | _ => cases e1
  · cases k5
/-- the def statement, then the rest: the table is cell 0 -/
def dNdef (x : Str) (l : Nat) (g : Sig → AH → Out) : Sig → AH → Out := fun δ S => match (S[0]? : Option Cell) with
  | some (Cell.tab y) => if y = x ∧ l < δ.length then g (δ.set l (some (.c S.length))) (S ++ [.fn]) else .bad
  | _ => .bad
theorem dss_ndef {X : Cx} {E : L2.St → XK} {st : Stmt} {rest : List Stmt} {x : Str} {f c P : Addr} {o : Obj} {fd : FuncData} {l : Nat} {F : Addr → NF} {g : Sig → AH → Out} (hs : PS X st (tNdefP P (x ++ ".<locals>.visit") l F)) (hr : DSFs X E l F rest g)
    (h1 : X.mg x = some (.ref f)) (h2 : X.K.lookup f = some o) (h3 : o.data = .func fd) (h4 : fd.code = .ref c) (h5 : PySem.W.codeHdIn X.K c P = true) : DSs X E (st :: rest) (dNdef x l g) :=
  (pss_cons hs hr.1).imp fun D σ H ⟨as, δ, S, sr, er, w⟩ => by
    unfold dNdef at w
    split at w
    · rename_i y e0
      split at w
      · rename_i hy
        obtain ⟨rfl, hl⟩ := hy
        have hlen : 0 < as.cells.length := by rw [sr.len]; exact (List.getElem?_eq_some_iff.mp e0).1
        have ea : as.cells[0]? = some as.cells[0] := List.getElem?_eq_getElem hlen
        obtain ⟨tk, tn⟩ := sr.cell 0 _ _ ea e0
        have eP := tabK_uniq tk h1 h2 h3 h4 h5
        rw [eP] at ea tn
        refine ⟨tn, fun f c' H1 keep T1 f0 f1 c1 => ?_⟩
        have inP : P ∈ as.cells := List.mem_of_getElem? ea
        obtain ⟨ps, hP, _⟩ := id tn
        have x : Ext as H (as.add f) H1 := by
          refine ⟨⟨[f], rfl⟩, rfl, fun b o e q => ⟨keep b o (fun z => q.1 (by rw [z]; exact inP)) e, fun m => ?_, q.2⟩, fun b o hb e => keep b o (fun z => sr.apart P inP (by rw [← z]; exact hb)) e, fun b g e => keep b _ (fun z => by
            rw [z, hP] at e
            cases e) e⟩
          rcases List.mem_append.mp m with m | m
          · exact q.1 m
          · have : b = f := by simpa using m
            subst this
            rw [f0] at e
            cases e
        have nf : f ∉ as.cells := fun m => by
          obtain ⟨o, e⟩ := sr.mem_some m
          rw [f0] at e
          cases e
        have s1 : SR (wd X) (as.add f) H1 (S ++ [.fn]) := by
          refine ⟨by unfold As.add; rw [List.length_append, List.length_append, sr.len]; rfl, List.nodup_append.mpr ⟨sr.nd, by simp, fun a ha b hb e => ?_⟩, fun a ha => ?_, fun a ha => ?_, fun i a cl e1 e2 => ?_⟩
          · have : b = f := by simpa using hb
            subst this
            subst e
            exact nf ha
          · rcases List.mem_append.mp ha with m | m
            · exact sr.apart a m
            · have : a = f := by simpa using m
              subst this
              intro hh
              obtain ⟨o, e⟩ := sr.hidd a hh
              rw [f0] at e
              cases e
          · obtain ⟨u, e⟩ := sr.hidd a ha
            exact ⟨u, x.hkeep a u ha e⟩
          · have e1 : (as.cells ++ [f])[i]? = some a := e1
            by_cases hi : i < as.cells.length
            · rw [List.getElem?_append_left hi] at e1
              rw [List.getElem?_append_left (by rw [← sr.len]; exact hi)] at e2
              by_cases hp : a = P
              · subst hp
                have i0 : i = 0 := by
                  have h6 : (0 : Nat) < as.cells.length := hlen
                  rw [List.getElem?_eq_getElem hi] at e1
                  rw [List.getElem?_eq_getElem h6] at ea
                  exact (List.getElem_inj sr.nd).mp (by rw [Option.some.inj e1, Option.some.inj ea])
                subst i0
                rw [e0] at e2
                cases e2
                exact ⟨by rw [← eP]; exact tk, T1⟩
              · obtain ⟨o, eo⟩ := sr.mem_some (List.mem_of_getElem? e1)
                exact (sr.cell i a cl e1 e2).mono x (by rw [keep a o hp eo, eo])
            · have hl2 : i < (as.cells ++ [f]).length := (List.getElem?_eq_some_iff.mp e1).1
              rw [List.length_append, List.length_singleton] at hl2
              have hi' : i = as.cells.length := by omega
              subst hi'
              rw [List.getElem?_append_right (Nat.le_refl _), Nat.sub_self] at e1
              rw [sr.len, List.getElem?_append_right (Nat.le_refl _), Nat.sub_self] at e2
              have e1' : f = a := by simpa using e1
              have e2' : Cell.fn = cl := by simpa using e2
              subst e1'
              subst e2'
              exact ⟨_, f1⟩
        have gf : (as.add f).cells[S.length]? = some f := by
          show (as.cells ++ [f])[S.length]? = some f
          rw [← sr.len, List.getElem?_append_right (Nat.le_refl _), Nat.sub_self]
          rfl
        exact ⟨as.add f, _, _, s1, (er.mono x.w).set (d := .c S.length) ⟨f, gf, rfl⟩ l, ⟨S.length, f, c', by rw [List.getElem?_set_self hl], gf, f1, c1⟩, WS.later x w⟩
      · exact w.elim
    · exact w.elim
/-! ### a def whose code object is known -/
structure FunC (K : PySem.W.Frag) (x qual : Str) (st : Stmt) (f : Addr) (fd : FuncData) (c : Addr) : Prop where
  ex : ∃ (oc : Value) (od : Option Addr) (kV doc pm : Value) (an : Option Addr) (ct : Value) (osl : Array (Option Value)),
    fd = PySem.W.fnOf x qual (defArgs st) (defBody st) (defScope st) .none kV doc pm an (.ref c) ct ∧ K.lookup f = some ⟨oc, od, .func fd, osl⟩ ∧ PySem.W.codeIn K (.ref c) qual = true
theorem funC_mk {K : PySem.W.Frag} {x qual : Str} {st : Stmt} {f c : Addr} {oc : Value} {od an : Option Addr} {osl : Array (Option Value)} {kV doc pm ct : Value} (l : K.lookup f = some ⟨oc, od, .func (PySem.W.fnOf x qual (defArgs st) (defBody st) (defScope st) .none kV doc pm an (.ref c) ct), osl⟩)
    (cd : PySem.W.codeIn K (.ref c) qual = true) : FunC K x qual st f (PySem.W.fnOf x qual (defArgs st) (defBody st) (defScope st) .none kV doc pm an (.ref c) ct) c := ⟨⟨oc, od, kV, doc, pm, an, ct, osl, rfl, l, cd⟩⟩
theorem FunC.look {K : PySem.W.Frag} {x qual : Str} {st : Stmt} {f : Addr} {fd : FuncData} {c : Addr} (F : FunC K x qual st f fd c) : ∃ o, K.lookup f = some o ∧ o.data = .func fd ∧ fd.code = .ref c := by
  obtain ⟨oc, od, kV, doc, pm, an, ct, osl, rfl, lk, hcd⟩ := F.ex
  exact ⟨_, lk, rfl, rfl⟩
section
variable {P : Program} {w : World} {K : PySem.W.Frag} {mg : Str → Option Value} {base : Heap}
theorem def_okC {x qual : Str} {st : Stmt} {f c : Addr} {fd : FuncData} {N ps : List Str} {k : Nat} {n : Nat} {keep : Bool} {body : Sig → AH → Out} {nN : Nat} (F : FunC K x qual st f fd c) (S : FnScope N ps (defScope st)) (hn : n = ps.length) (hN : nN = N.length)
    (hbody : ∀ (A : Around) (outer : List Env) (s : Shared) (H : Hp) (E : XK), Room k (A.deeper (envOfC qual (defScope st) s.heap.objs.size f (.ref c))) →
      Gd (cxOf (L2.CX P w) P w K mg base N qual (defScope st) f (.ref c) A outer s H E) (fun _ => E) →
      DSs (cxOf (L2.CX P w) P w K mg base N qual (defScope st) f (.ref c) A outer s H E) (fun _ => E) (defBody st) body) : FnOk P w K mg base (L2.CX P w) (k + 1) f fd ps (spD ⟨K, mg⟩ (dDef nN n keep body)) := by
  subst hn hN
  obtain ⟨oc, od, kV, doc, pm, an, ct, osl, rfl, lk, hcd⟩ := F.ex
  refine fn_of lk hcd S (fun vs H Q E h => ?_) fun A outer s H vs Q E hr h => ?_
  · obtain ⟨as, ds, S, sr, r, w⟩ := h
    unfold dDef at w
    split at w
    · rename_i e
      rw [← e]
      exact Paired.length r
    · exact w.elim
  · refine ⟨_, hbody A outer s H E hr ⟨rfl, takes_of rfl rfl rfl rfl, passes_of rfl⟩, ?_⟩
    obtain ⟨as, ds, S, sr, r, w⟩ := h
    unfold dDef at w
    split at w
    · rename_i e
      exact ⟨as, _, S, sr, er_start r e, gc_ok sr w⟩
    · exact w.elim
end
/-! ### the end, with the table of the def y -/
def spLawT (M : Wd) (y : Str) : Sp := fun vs H Q E => ∃ (a : Addr) (ns : List Int) (P : Addr), vs = [.ref a] ∧ SqL M.K H a (ns.map V.int) ∧ ns.length ≤ 63 ∧ TabK M y P ∧ H P = some (.tbl #[]) ∧ ∀ H', Q (.bl true) H'
theorem law_endT {M : Wd} {y : Str} {F : List DV → AH → Res DV} (ht : ∀ (D : PV) (ns : List Int), ns.length ≤ 63 → (D = .fro (ns.map PV.int) ∨ D = .lst (ns.map PV.int)) → ∃ S, F [.p D] [.tab y] = .ok (.p (.bl true)) S)
    {vs : List V} {H : Hp} {Q : VK} {E : XK} (h : spLawT M y vs H Q E) : spD M F vs H Q E := by
  obtain ⟨a, ns, P, rfl, hS, h63, tk, hP, q⟩ := h
  have z : (ns.map V.int).length ≤ sizeLine := by rw [List.length_map]; exact Nat.le_trans h63 (by decide)
  have off : ∀ o, H a = some o → (∀ ps, o ≠ .tbl ps) → (⟨[P], fun _ => False⟩ : As).off a := fun o e n => ⟨fun m => by
    have : a = P := by simpa using m
    subst this
    rw [hP] at e
    exact n _ (Option.some.inj e).symm, fun z => z⟩
  have sr : SR M ⟨[P], fun _ => False⟩ H [.tab y] := ⟨rfl, by simp, (fun _ _ z => z), (fun _ z => z.elim), fun i b c e1 e2 => by
    cases i with
    | zero =>
      have e1 : P = b := by simpa using e1
      have e2 : Cell.tab y = c := by simpa using e2
      subst e1
      subst e2
      exact ⟨tk, TabN.nil hP⟩
    | succ i => simp at e1⟩
  obtain ⟨D, hD, hr⟩ : ∃ D : PV, (D = .fro (ns.map PV.int) ∨ D = .lst (ns.map PV.int)) ∧ PR M ⟨[P], fun _ => False⟩ H (.ref a) D := by
    rcases hS with (hS | ⟨o, hS⟩) | hS
    · exact ⟨_, .inr rfl, .lst ⟨z, hS, off _ hS (fun ps e => by cases e)⟩ (PRs.of_ints ns)⟩
    · exact ⟨_, .inl rfl, .fro ⟨z, .inl ⟨⟨o, hS⟩, off _ hS (fun ps e => by cases e)⟩⟩ (PRs.of_ints ns)⟩
    · exact ⟨_, .inl rfl, .fro ⟨z, .inr hS⟩ (PRs.of_ints ns)⟩
  obtain ⟨S, e⟩ := ht D ns h63 hD
  refine ⟨⟨[P], fun _ => False⟩, [.p D], [.tab y], sr, .cons hr .nil, ?_⟩
  rw [e]
  intro as' H' b x s rr
  cases rr
  exact q H'
theorem walkT {l : PySem.W.OpenLaw} {k : Nat} {q : Program} {loose : List Str} {XP : (Str → Option Value) → Heap → Prop} {YP : World → Heap → Prop} {d : DefRec} {K : Params → PySem.W.Frag} (y : Str) (hn : l.most = some 63) (hdf : d.params.defaults = []) (hr : Room k callerA)
    (hrec : ((recsOf q).any fun e => e.name == y) = true) (hY : ∀ (w : World) (h : Heap), YP w h → (K w.params).In h)
    (F : ∀ (w : World) (mg : Str → Option Value) (fa : Addr) (h : Heap), (K w.params).In h → h.Ns mainGlobals mg → mg d.name = some (.ref fa) →
      ∃ (fd : FuncData) (f c P : Addr) (o : Obj) (fv : FuncData), (∀ (s : Shared) (u : Value), BindsTo s fd ⟨[u], []⟩ [("script", u)]) ∧ mg y = some (.ref f) ∧ (K w.params).lookup f = some o ∧ o.data = .func fv ∧ fv.code = .ref c ∧ PySem.W.codeHdIn (K w.params) c P = true ∧ (K w.params).lookup P = none ∧
        ∀ base : Heap, TabB base mg c P → FnOk l.prog w (K w.params) mg base (L2.CX l.prog w) k fa fd ["script"] (spLawT ⟨K w.params, mg⟩ y)) :
    PySem.W.WalkO q loose XP YP l.row.toRowW d [] (fun f vs => PySem.call f vs) := by
  refine Att.attach_callB hn hdf fun w s₀ s₁ mg mb fa o0 pm cd doc a vs ns G Y ho hd hcd hmg hobj hints hlen hbits hg => ?_
  have KX := hY w _ Y
  obtain ⟨fd, f, c, P, o, fv, hb, m1, m2, m3, m4, m5, m6, hF⟩ := F w mg fa _ KX G.T.g hmg
  have hd5 := PySem.W.codeHd_of_K KX m5
  have own : s₁.heap.get? P = some { cls := .none, data := .fields #[] } := by
    obtain ⟨dL, hm, hn1⟩ := List.any_eq_true.mp hrec
    have hn2 : dL.name = y := beq_iff_eq.mp hn1
    obtain ⟨a', o', fd', c', P', h1, h2, h3, h4, h5, h6⟩ := G.T.tab dL hm
    rw [hn2, m1] at h1
    cases h1
    have g1 := KX _ _ m2
    rw [g1] at h2
    cases h2
    rw [m3] at h3
    cases h3
    rw [m4] at h4
    cases h4
    obtain ⟨⟨oc, vc, e1, _, e3, e4⟩, hP⟩ := h6
    unfold PySem.W.codeHdIn at m5
    split at m5
    · rename_i vs1 _ hk
      have g2 := KX _ _ hk
      rw [g2] at e1
      cases e1
      cases e3
      simp only [Bool.and_eq_true] at m5
      obtain ⟨⟨⟨⟨⟨z1, _⟩, _⟩, _⟩, _⟩, _⟩ := m5
      rw [e4] at z1
      rw [← beq_iff_eq.mp z1]
      exact hP
    · cases m5
  refine law_callTs (cs := [(c, P)]) (sp := spLawT ⟨K w.params, mg⟩ y) KX G.T.g G.T.b G.T.builtins G.T.nolimit hg ?_ ?_ ?_ G.T.bmain hobj hints (Nat.le_trans hlen (by decide)) hr (fun base _ _ hc => hF base (hc (c, P) List.mem_cons_self)) hb (fun H hH hS => ⟨a, ns, P, rfl, hS, hlen, ⟨f, c, o, fv, m1, m2, m3, m4, m5⟩, hH (c, P) List.mem_cons_self, fun _ => rfl⟩) fun H e s' h => ?_
  · intro p hp
    cases List.mem_singleton.mp hp
    exact own
  · intro p hp
    cases List.mem_singleton.mp hp
    exact m6
  · intro p hp
    cases List.mem_singleton.mp hp
    exact hd5
  · obtain ⟨_, _, _, _, _, _, _, _, _, _, _, _, z⟩ := h
    exact z
theorem kp_aug {i j : Nat} {o : Op2} {fe : Sig → AH → Res DV} (h : j ≠ i) : Kp i (dAug j o fe) := fun δ S => by
  unfold dAug
  split
  · refine kp_out fun b S1 => kp_out fun d S2 => ?_
    show (δ.set j (some d))[i]? = δ[i]?
    rw [List.getElem?_set_ne h]
  · trivial
end DL
namespace DL
noncomputable section
open PySem PySem.Spec PyProof.Rows L2

/-! ### sorted(set(xs)), xs a list of tuples of numbers, all as long -/
/-- sorted by a key, each key once -/
def insC (k : List Int → Int) (a : List Int) : List (List Int) → List (List Int)
  | [] => [a]
  | b :: r => if k a < k b then a :: b :: r else if k a = k b then b :: r else b :: insC k a r
def srtC (k : List Int → Int) : List (List Int) → List (List Int)
  | [] => []
  | a :: r => insC k a (srtC k r)
theorem insC_sub (k : List Int → Int) (a x : List Int) : ∀ l, x ∈ insC k a l → x = a ∨ x ∈ l
  | [], h => by simp [insC] at h; exact .inl h
  | b :: r, h => by
    unfold insC at h
    split at h
    · rcases List.mem_cons.mp h with h | h
      · exact .inl h
      · exact .inr h
    · split at h
      · exact .inr h
      · rcases List.mem_cons.mp h with h | h
        · exact .inr (by rw [h]; exact List.mem_cons_self)
        · rcases insC_sub k a x r h with h | h
          · exact .inl h
          · exact .inr (List.mem_cons_of_mem _ h)
theorem insC_old (k : List Int → Int) (a x : List Int) : ∀ l, x ∈ l → x ∈ insC k a l
  | b :: r, h => by
    unfold insC
    split
    · exact List.mem_cons_of_mem _ h
    · split
      · exact h
      · rcases List.mem_cons.mp h with h | h
        · rw [h]; exact List.mem_cons_self
        · exact List.mem_cons_of_mem _ (insC_old k a x r h)
theorem insC_new (k : List Int → Int) (a : List Int) : ∀ l, (∀ b ∈ l, k a = k b → a = b) → a ∈ insC k a l
  | [], _ => by simp [insC]
  | b :: r, h => by
    unfold insC
    split
    · exact List.mem_cons_self
    · split
      · rename_i q
        rw [h b List.mem_cons_self q]
        exact List.mem_cons_self
      · exact List.mem_cons_of_mem _ (insC_new k a r fun c hc => h c (List.mem_cons_of_mem _ hc))
theorem insC_asc (k : List Int → Int) (a : List Int) : ∀ {l : List (List Int)}, l.Pairwise (fun x y => k x < k y) → (insC k a l).Pairwise (fun x y => k x < k y)
  | [], _ => by simp [insC]
  | b :: r, h => by
    obtain ⟨h1, h2⟩ := List.pairwise_cons.mp h
    unfold insC
    split
    · rename_i q
      refine List.pairwise_cons.mpr ⟨fun y hy => ?_, h⟩
      rcases List.mem_cons.mp hy with rfl | hy
      · exact q
      · have := h1 y hy; omega
    · split
      · exact h
      · refine List.pairwise_cons.mpr ⟨fun y hy => ?_, insC_asc k a h2⟩
        rcases insC_sub k a y r hy with rfl | hy
        · omega
        · exact h1 y hy
theorem srtC_sub (k : List Int → Int) {x : List Int} : ∀ {l}, x ∈ srtC k l → x ∈ l
  | a :: r, h => by
    rcases insC_sub k a x _ h with rfl | h
    · exact List.mem_cons_self
    · exact List.mem_cons_of_mem _ (srtC_sub k h)
theorem srtC_all (k : List Int → Int) {x : List Int} : ∀ {l}, (∀ a ∈ l, ∀ b ∈ l, k a = k b → a = b) → x ∈ l → x ∈ srtC k l
  | a :: r, inj, h => by
    rcases List.mem_cons.mp h with rfl | h
    · exact insC_new k x _ fun b hb e => inj x List.mem_cons_self b (List.mem_cons_of_mem _ (srtC_sub k hb)) e
    · exact insC_old k a x _ (srtC_all k (fun a ha b hb => inj a (List.mem_cons_of_mem _ ha) b (List.mem_cons_of_mem _ hb)) h)
theorem srtC_asc (k : List Int → Int) : ∀ l, (srtC k l).Pairwise (fun x y => k x < k y)
  | [] => .nil
  | a :: r => insC_asc k a (srtC_asc k r)
theorem key_same (k : List Int → Int) : ∀ {l m : List (List Int)}, l.Pairwise (fun x y => k x < k y) → m.Pairwise (fun x y => k x < k y) → (∀ x, x ∈ l ↔ x ∈ m) → l = m
  | [], [], _, _, _ => rfl
  | [], b :: m, _, _, h => by have := (h b).mpr List.mem_cons_self; cases this
  | a :: l, [], _, _, h => by have := (h a).mp List.mem_cons_self; cases this
  | a :: l, b :: m, h1, h2, h => by
    obtain ⟨p1, p2⟩ := List.pairwise_cons.mp h1
    obtain ⟨q1, q2⟩ := List.pairwise_cons.mp h2
    have ab : a = b := by
      rcases List.mem_cons.mp ((h a).mp List.mem_cons_self) with e | e
      · exact e
      · rcases List.mem_cons.mp ((h b).mpr List.mem_cons_self) with e2 | e2
        · exact e2.symm
        · have := p1 b e2
          have := q1 a e
          omega
    subst ab
    rw [key_same k p2 q2 fun x => ?_]
    constructor
    · intro hx
      rcases List.mem_cons.mp ((h x).mp (List.mem_cons_of_mem _ hx)) with e | e
      · have := p1 x hx; rw [e] at this; omega
      · exact e
    · intro hx
      rcases List.mem_cons.mp ((h x).mpr (List.mem_cons_of_mem _ hx)) with e | e
      · have := q1 x hx; rw [e] at this; omega
      · exact e
theorem code_one {B : Int} : ∀ {ns ms : List Int}, TS.Bd B ns → TS.Bd B ms → ns.length = ms.length → TS.code B ns = TS.code B ms → ns = ms
  | [], [], _, _, _, _ => rfl
  | [], _ :: _, _, _, l, _ => by simp at l
  | _ :: _, [], _, _, l, _ => by simp at l
  | d :: r, e :: q, h1, h2, l, h => by
    have l' : r.length = q.length := by simpa using l
    have de : d = e := by
      by_cases c : d < e
      · have := TS.code_lt l' h1.tail h2.tail c; omega
      · by_cases c2 : e < d
        · have := TS.code_lt l'.symm h2.tail h1.tail c2; omega
        · omega
    subst de
    have t : TS.code B r = TS.code B q := by
      have h : d * B ^ r.length + TS.code B r = d * B ^ q.length + TS.code B q := h
      rw [l'] at h
      omega
    rw [code_one h1.tail h2.tail l' t]
/-- tuples of numbers -/
def tupsOf : List PV → Option (List (List Int))
  | [] => some []
  | .tup xs :: r => match intsOf xs, tupsOf r with
    | some ns, some t => some (ns :: t)
    | _, _ => none
  | _ :: _ => none
theorem tupsOf_ok : ∀ {ps : List PV} {nss : List (List Int)}, tupsOf ps = some nss → ps = nss.map fun ns => PV.tup (ns.map PV.int)
  | [], nss, h => by
    obtain rfl : [] = nss := by simpa [tupsOf] using h
    rfl
  | p :: r, nss, h => by
    cases p with
    | tup xs =>
      unfold tupsOf at h
      cases e1 : intsOf xs with
      | none => rw [e1] at h; simp at h
      | some ns =>
        cases e2 : tupsOf r with
        | none => rw [e1, e2] at h; simp at h
        | some t =>
          rw [e1, e2] at h
          obtain rfl : ns :: t = nss := by simpa using h
          rw [List.map_cons, ← tupsOf_ok e2, intsOf_ok e1]
    | _ => simp [tupsOf] at h
theorem tupsOf_map : ∀ nss : List (List Int), tupsOf (nss.map fun ns => PV.tup (ns.map PV.int)) = some nss
  | [] => rfl
  | n :: nss => by rw [List.map_cons, tupsOf, intsOf_map, tupsOf_map nss]
def codeK : List Int → Int := TS.code 1000
open Classical in
/-- words as long, with letters below 1000 -/
def SameW (nss : List (List Int)) : Prop := nss.length < 64 ∧ ∃ d, 1 ≤ d ∧ ∀ ns ∈ nss, ns.length = d ∧ TS.Bd 1000 ns
open Classical in
def ssetW : OpF := fun ds S => match ds with
  | [d] => match litems d S with
    | some xs => match tupsOf xs with
      | some nss => if SameW nss then some ((srtC codeK nss).map fun ns => PV.tup (ns.map PV.int)) else none
      | none => none
    | none => none
  | _ => none
section
variable {M : Wd} {as as' : As} {H H' : Hp}
/-- the tuples of numbers among the values -/
theorem PRs.tups : ∀ {vs : List V} {nss : List (List Int)}, PRs M as H vs (nss.map fun ns => PV.tup (ns.map PV.int)) → ∃ ks : List (Addr × List Int), vs = ks.map (fun p => V.ref p.1) ∧ ks.map (·.2) = nss ∧ ∀ p ∈ ks, PR M as H (.ref p.1) (.tup (p.2.map PV.int))
  | [], [], _ => ⟨[], rfl, rfl, fun p h => by cases h⟩
  | v :: vs, n :: nss, .cons r t => by
    obtain ⟨ks, h1, h2, h3⟩ := PRs.tups t
    cases r with
    | tup h q => exact ⟨(_, n) :: ks, by rw [h1]; rfl, by rw [← h2]; rfl, fun p hp => by
        rcases List.mem_cons.mp hp with rfl | hp
        · exact .tup h q
        · exact h3 p hp⟩
theorem PR.sqi {a : Addr} {ns : List Int} (h : PR M as H (.ref a) (.tup (ns.map PV.int))) : SqT M.K H a (ns.map V.int) := by
  cases h with
  | tup h t =>
    have := h.sq
    rwa [t.ints] at this
theorem prs_of : ∀ {ks : List (Addr × List Int)}, (∀ p ∈ ks, PR M as H (.ref p.1) (.tup (p.2.map PV.int))) → PRs M as H (ks.map fun p => V.ref p.1) ((ks.map (·.2)).map fun ns => PV.tup (ns.map PV.int))
  | [], _ => .nil
  | p :: ks, h => .cons (h p List.mem_cons_self) (prs_of fun q hq => h q (List.mem_cons_of_mem _ hq))
end
section
variable {X : Cx} {E : L2.St → XK} {e : Expr} {p p2 q pos : Pos} {fe : Sig → AH → Res DV}
theorem fe_ssetW (g : Gd X E) (hu : X.A.units + 64 < cLine) (hg : Gl X "sorted") (hm : X.mg "sorted" = none) (hg2 : Gl X "set") (hm2 : X.mg "set" = none) (he : DE X E e fe) (hs : starEach [e] X.env = [(false, eval e X.env)] := by rfl) (hs2 : starEach [Expr.Call (.Name "set" p2) [e] [] q] X.env = [(false, eval (Expr.Call (.Name "set" p2) [e] [] q) X.env)] := by rfl) :
    FE X E (.Call (.Name "sorted" p) [.Call (.Name "set" p2) [e] [] q] [] pos) (dAppF ssetW (dCons fe dNil)) :=
  (pe_callB (cr_sortedT g.calm) hg hm (by kernel_rfl) (pa_cons (pe_callTy (cr_setOfT g.calm hu) hg2 hm2 (by kernel_rfl) (pa_cons he pa_nil hs) (by decide) (by decide) hs rfl) pa_nil hs2) (by decide) (by decide) hs2 rfl).imp fun σ H Q ⟨as, δ, S, sr, er, w⟩ => by
  have w : WF (wd X) (E σ) as H ((fe δ S).bind fun d S1 => match ssetW [d] S1 with
    | some ps => .ok ps S1
    | none => .bad) Q := by
    have e1 : dAppF ssetW (dCons fe dNil) δ S = (fe δ S).bind fun d S1 => match ssetW [d] S1 with
      | some ps => .ok ps S1
      | none => .bad := by
      show (Res.bind (Res.bind (fe δ S) _) _) = _
      cases fe δ S <;> rfl
    rw [← e1]
    exact w
  refine ⟨as, δ, S, sr, er, (WF.bind (R := DVR (wd X)) w).mono fun _ _ _ _ v _ _ _ _ ⟨as1, S1, d1, _, x1, s1, r1, w1⟩ => ?_⟩
  cases e1 : litems d1 S1 with
  | none => simp only [ssetW, e1] at w1; exact w1.elim
  | some xs =>
    cases e2 : tupsOf xs with
    | none => simp only [ssetW, e1, e2] at w1; exact w1.elim
    | some nss =>
      by_cases hw : SameW nss
      case neg => simp only [ssetW, e1, e2, if_neg hw] at w1; exact w1.elim
      simp only [ssetW, e1, e2, if_pos hw] at w1
      obtain ⟨h64, d, hd, hb⟩ := hw
      obtain ⟨a, vs, rfl, hz, hq, t⟩ := litems_sq s1 r1 e1
      rw [tupsOf_ok e2] at t
      obtain ⟨ks, k1, k2, k3⟩ := t.tups
      subst k1
      refine ⟨a, ks, rfl, hq, fun p hp => (k3 p hp).sqi, by rw [← k2, List.length_map] at h64; exact h64, fun b L nb hL hA => ?_⟩
      have x2 := ext_new (o := SetTO X.prog X.w b L) s1 nb
      have k3' : ∀ p ∈ ks, PR (wd X) as1 (upd _ b (SetTO X.prog X.w b L)) (.ref p.1) (.tup (p.2.map PV.int)) := fun p hp => (k3 p hp).mono x2.w
      have hbk : ∀ p ∈ ks, p.2.length = d ∧ TS.Bd 1000 p.2 := fun p hp => hb p.2 (by rw [← k2]; exact List.mem_map.mpr ⟨p, hp, rfl⟩)
      refine ⟨b, L, d, 1000, rfl, upd_same, fun p hp => (k3' p (hL p hp)).sqi, hd, fun p hp => hbk p (hL p hp), fun L' c pm nd len pw nc => ?_⟩
      have hL' : ∀ p ∈ L', p ∈ ks := fun p hp => hL p (pm.mem_iff.mp hp)
      have en : L'.map (·.2) = srtC codeK nss := by
        refine key_same codeK ?_ (srtC_asc codeK nss) fun x => ?_
        · have pw' : (L'.map (·.2)).Pairwise fun x y => codeK x ≤ codeK y := List.pairwise_map.mpr pw
          refine (pw'.and nd).imp_of_mem fun {x y} hx hy h => ?_
          obtain ⟨p, hp, rfl⟩ := List.mem_map.mp hx
          obtain ⟨p', hp', rfl⟩ := List.mem_map.mp hy
          obtain ⟨b1, b2⟩ := hbk p (hL' p hp)
          obtain ⟨b3, b4⟩ := hbk p' (hL' p' hp')
          by_cases ce : codeK p.2 = codeK p'.2
          · exact absurd (code_one b2 b4 (b1.trans b3.symm) ce) h.2
          · have := h.1; omega
        · constructor
          · intro hx
            obtain ⟨p, hp, rfl⟩ := List.mem_map.mp hx
            refine srtC_all codeK (fun a ha b hb' ce => code_one (hb a ha).2 (hb b hb').2 ((hb a ha).1.trans (hb b hb').1.symm) ce) ?_
            rw [← k2]; exact List.mem_map.mpr ⟨p, hL' p hp, rfl⟩
          · intro hx
            have hx := srtC_sub codeK hx
            rw [← k2] at hx
            obtain ⟨p, hp, rfl⟩ := List.mem_map.mp hx
            obtain ⟨p', hp', e'⟩ := List.mem_map.mp (hA p hp)
            exact List.mem_map.mpr ⟨p', pm.mem_iff.mpr hp', e'⟩
      have pr := prs_of (ks := L') fun p hp => k3' p (hL' p hp)
      rw [en] at pr
      exact (WF.later x2 w1).here (s1.new nb) (by rw [List.length_map, sizeLine_eq]; omega) pr nc
end
end
end DL
namespace DL
noncomputable section
open PySem PySem.Spec PyProof.Rows L2

/-! ### a, o[i] = a pair -/
def dAsgS (j : Nat) (fe fo fi : Sig → AH → Res DV) : Sig → AH → Out := fun δ S => (fe δ S).out δ fun v S => match v with
  | .p (.tup [a, b]) => (fo (δ.set j (some (.p a))) S).out (δ.set j (some (.p a))) fun o S => (fi (δ.set j (some (.p a))) S).out (δ.set j (some (.p a))) fun i S => match setIx o i (.p b) S with
    | some S' => .nx (δ.set j (some (.p a))) S'
    | none => .bad
  | _ => .bad
section
variable {X : Cx} {E : L2.St → XK} {o i e : Expr} {pos tpos npos ppos : Pos} {fe fo fi : Sig → AH → Res DV} {j k : Nat} {x : Str}
theorem ds_asgS (hc : X.calm = true) (hN : X.N.Nodup) (hj : X.N[j]? = some x) (hx : Loc X.env.scope x) (he : DE X E e fe) (ho : DE X E o fo) (hi : DE X E i fi)
    (hf : X.fn x = true ∨ X.env.scope.names.lookup x = some .local := by first | exact .inl rfl | exact .inr rfl | assumption)
    (hs : swapsWithSole [.Tuple [.Name x npos, .Subscript o i tpos] k ppos] e pos.line X.env = pure false := by rfl) (hw : swappedStores [.Tuple [.Name x npos, .Subscript o i tpos] k ppos] e X.env = pure none := by rfl)
    (h1 : (assignEach [.Tuple [.Name x npos, .Subscript o i tpos] k ppos] X.env).map (·.2) = [assign (.Tuple [.Name x npos, .Subscript o i tpos] k ppos) X.env] := by rfl)
    (ha : ∀ v, assign (.Subscript o i tpos) X.env v = (do
      let ov ← holding [v] (eval o X.env)
      let iv ← holding [v, ov] (eval i X.env)
      standAt tpos
      holding [v, ov, iv] (setItem ov iv v)
      release [v, ov, iv] []) := by intro _; rfl)
    (c1 : (assignEach [.Name x npos, .Subscript o i tpos] X.env).map (·.2) = assign (.Name x npos) X.env :: (assignEach [.Subscript o i tpos] X.env).map (·.2) := by rfl)
    (c2 : (assignEach [.Subscript o i tpos] X.env).map (·.2) = assign (.Subscript o i tpos) X.env :: (assignEach [] X.env).map (·.2) := by rfl)
    (hn : (assignEach [.Name x npos, .Subscript o i tpos] X.env).length = 2 := by rfl) (hst : (assignEach [.Name x npos, .Subscript o i tpos] X.env).findIdx? (·.1) = none := by rfl) :
    DS X E (.Assign [.Tuple [.Name x npos, .Subscript o i tpos] k ppos] e pos) (dAsgS j fe fo fi) :=
  (ps_asg he (pg_tup hc (pgs_cons (pg_name hN hj hx hf) (pgs_cons (pg_sub ho hi ow_setIx ha) pgs_nil c2) c1) hn hst) hs hw h1).imp fun D σ H ⟨as, δ, S, sr, er, w⟩ =>
  ⟨as, δ, S, sr, er, (w.bind er).mono fun _ _ _ _ _ _ _ _ _ ⟨as1, S1, d1, _, x1, s1, r1, w1⟩ => by
    split at w1
    · cases r1 with
      | tup h t =>
        obtain ⟨v, v2, rfl, r, r'⟩ := DVRs.two t.dvrs
        have er1 := (er.mono x1.w).set r j
        refine ⟨_, _, rfl, h.sq, rfl, _, _, rfl, _, _, rfl, as1, _, S1, s1, er1, (w1.bind er1).mono fun _ _ _ _ _ _ _ _ _ ⟨as2, S2, d2, _, x2, s2, r2, w2⟩ =>
          ⟨as2, _, S2, s2, er1.mono x2.w, (w2.bind (er1.mono x2.w)).mono fun _ _ _ _ _ _ _ _ _ ⟨as3, S3, d3, _, x3, s3, r3, w3⟩ => ?_⟩⟩
        split at w3
        · rename_i S' eq
          exact ⟨as3, S3, d2, d3, _, s3, r2.mono x3.w, r3, (r'.mono x2.w).mono x3.w, S', eq, fun as' H' x s => ⟨rfl, w3 as' H' _ x s (((er1.mono x2.w).mono x3.w).mono x.w)⟩⟩
        · exact w3.elim
    · exact w1.elim⟩
end
end
end DL
namespace DL
noncomputable section
open PySem PySem.Spec PyProof.Rows L2

/-! ### [e for a in xs if .. for b in ys if ..] -/
theorem Exw.hide2 {as as' : As} {H H' : Hp} {p : Addr} {o o' : HO} (x : Exw as H as' H') (n : H p = none) : Exw (as.hide p) (upd H p o) (as'.hide p) (upd H' p o') :=
  ⟨x.more, fun a u e q => by
    have ne : a ≠ p := fun z => q.2 (.inr z)
    rw [upd_ne ne] at e ⊢
    obtain ⟨h1, h2⟩ := x.keep a u e ⟨q.1, fun z => q.2 (.inl z)⟩
    exact ⟨h1, h2.1, fun z => by
      rcases z with z | z
      · exact h2.2 z
      · exact ne z⟩⟩
open Classical in
def lc2Go (ck : AH → Prop) (q : Pat) (fc : Sig → AH → Res Bool) (fi1 : Sig → AH → Res Its') (q1 : Pat) (fc1 : Sig → AH → Res Bool) (fe : Sig → AH → Res DV) (vs1 : List Nat) (δ : Sig) : List DV → AH → Res (List PV)
  | [], S => if ck S then .ok [] S else .bad
  | x :: xs, S => if ck S then match q.set x δ with
    | none => .bad
    | some δ2 => (fc δ2 S).nox.bind fun b S1 => if b = true then (fi1 δ2 S1).nox.bind fun y S2 => if y.1.length ≤ 1000 then
        (lcGo y.2 q1 fc1 fe (wipeD δ2 vs1) y.1 S2).bind fun us S3 => (lc2Go ck q fc fi1 q1 fc1 fe vs1 δ xs S3).bind fun ys S4 => .ok (us ++ ys) S4
        else .bad
      else lc2Go ck q fc fi1 q1 fc1 fe vs1 δ xs S1
    else .bad
def dLc2 (fi : Sig → AH → Res Its') (q : Pat) (fc : Sig → AH → Res Bool) (fi1 : Sig → AH → Res Its') (q1 : Pat) (fc1 : Sig → AH → Res Bool) (fe : Sig → AH → Res DV) (vs vs1 : List Nat) : Sig → AH → Res (List PV) :=
  fun δ S => (fi δ S).bind fun x S1 => if x.1.length ≤ 1000 then lc2Go x.2 q fc fi1 q1 fc1 fe vs1 (wipeD δ vs) x.1 S1 else .bad
section
variable {X : Cx} {E : L2.St → XK} {elt tg iter tg1 iter1 : Expr} {ifs ifs1 : List Expr} {scope : Scope} {own : List (Str × Nat)} {pos : Pos} {fi fi1 : Sig → AH → Res Its'} {q q1 : Pat} {fc fc1 : Sig → AH → Res Bool} {fe : Sig → AH → Res DV}
theorem lc2_t {σ : L2.St} {H : Hp} {Q : VK} {as : As} {δ : Sig} {S : AH} {vs vs1 : List Nat} (hq : ∀ i ∈ q.slots, i ∈ vs) (hq1 : ∀ i ∈ q1.slots, i ∈ vs1) (sr : SR (wd X) as H S) (er : ER (wd X) as H σ δ) (w : WF (wd X) (E σ) as H (dLc2 fi q fc fi1 q1 fc1 fe vs vs1 δ S) Q) :
    tLc2 (tI (wd X) E fi) (tPat X.K q) (tDT (wd X) EN fc) (tI (wd X) EN fi1) (tPat X.K q1) (tDT (wd X) EN fc1) (tD (wd X) EN fe) vs vs1 σ H Q := by
  refine ⟨as, δ, S, sr, er, (WF.bind w).mono fun _ _ _ H1 J _ _ _ _ ⟨as1, S1, x, _, e1, s1, y1, w1⟩ => ?_⟩
  obtain ⟨xs, ck⟩ := x
  intro D nD
  have er1 := er.mono e1.w
  have nh : ¬ as1.hid D := (s1.fresh nD).2
  dsimp only at w1 y1
  have hz : xs.length ≤ 1000 := by
    refine Classical.byContradiction fun n => ?_
    rw [if_neg n] at w1
    exact w1
  rw [if_pos hz] at w1
  have hs : sizeLine = 16777216 := by decide
  refine ⟨fun i m H => m = xs.length - i ∧ i ≤ xs.length ∧ ∃ (asm : As) (Sm : AH) (accV : List V) (accP : List PV), H D = some (.lst accV) ∧ accV.length ≤ 1000 * i ∧ Ext as1 H1 asm (del H D) ∧ SR (wd X) asm (del H D) Sm ∧ PRs (wd X) asm (del H D) accV accP ∧
      WF (wd X) (E σ) asm (del H D) ((lc2Go ck q fc fi1 q1 fc1 fe vs1 (wipeD δ vs) (xs.drop i) Sm).bind fun ys S => .ok (accP ++ ys) S) Q, ⟨xs.length, rfl, Nat.zero_le _, as1, S1, [], [], upd_same, Nat.zero_le _, ?_⟩, ?_⟩
  · rw [del_upd nD]
    refine ⟨Ext.refl _ _, s1, .nil, ?_⟩
    rw [List.drop_zero]
    have e : ((lc2Go ck q fc fi1 q1 fc1 fe vs1 (wipeD δ vs) xs S1).bind fun ys S => Res.ok ([] ++ ys) S) = lc2Go ck q fc fi1 q1 fc1 fe vs1 (wipeD δ vs) xs S1 := by
      cases lc2Go ck q fc fi1 q1 fc1 fe vs1 (wipeD δ vs) xs S1 <;> rfl
    rw [e]
    exact w1
  · rintro i m H2 ⟨rfl, hi, asm, Sm, accV, accP, hD, hlen, em, sm, tm, wm⟩
    have eH : upd (del H2 D) D (.lst accV) = H2 := upd_del hD
    have nm : del H2 D D = none := del_same _ _
    have nhm : ¬ asm.hid D := by rw [em.hids]; exact nh
    have sh : SR (wd X) (asm.hide D) H2 Sm := by have := sm.hide (o := .lst accV) nm; rw [eH] at this; exact this
    have xw : Exw as1 H1 (asm.hide D) H2 := by have := em.w.hide (o := .lst accV) nD; rw [eH] at this; exact this
    by_cases hlt : i < xs.length
    · have hx : xs[i]? = some xs[i] := List.getElem?_eq_getElem hlt
      have hd : xs.drop i = xs[i] :: xs.drop (i + 1) := List.drop_eq_getElem_cons hlt
      rw [hd] at wm
      unfold lc2Go at wm
      have hck : ck Sm := by
        refine Classical.byContradiction fun n => ?_
        rw [if_neg n] at wm
        exact wm
      rw [if_pos hck] at wm
      refine .inr ⟨y1.go _ _ _ xw sh hck i hlt, fun H' => (i + 1 ≤ xs.length ∧ ∃ (asm : As) (Sm : AH) (accV : List V) (accP : List PV), H' D = some (.lst accV) ∧ accV.length ≤ 1000 * (i + 1) ∧ Ext as1 H1 asm (del H' D) ∧ SR (wd X) asm (del H' D) Sm ∧ PRs (wd X) asm (del H' D) accV accP ∧
        WF (wd X) (E σ) asm (del H' D) ((lc2Go ck q fc fi1 q1 fc1 fe vs1 (wipeD δ vs) (xs.drop (i + 1)) Sm).bind fun ys S => .ok (accP ++ ys) S) Q), fun H' n => ⟨xs.length - (i + 1), by omega, rfl, n.1, n.2⟩, fun v H' yv => ?_⟩
      obtain ⟨e3, s3, r3⟩ := y1.yld _ _ _ xw sh hck i _ v H' hx yv
      cases eq : q.set xs[i] (wipeD δ vs) with
      | none => rw [eq] at wm; exact wm.elim
      | some δ2 =>
        rw [eq] at wm
        dsimp only at wm
        rw [bind_assoc'] at wm
        have erh : ER (wd X) (asm.hide D) H' (L2.wipe σ vs) (wipeD δ vs) := ((er1.mono xw).wipe vs).mono e3.w
        refine tPat_ok (M := wd X) q erh r3 eq fun σ2 er2 wi2 => ⟨by rw [wi2 vs hq, wipe_idem], ?_⟩
        obtain ⟨b, Sb, eb, wb⟩ := nox_cases (fun r => WF (wd X) (E σ) asm (del H2 D) r Q) (fun z => z) wm
        refine ⟨asm.hide D, δ2, Sm, s3, er2, ?_⟩
        rw [eb]
        intro as4 H4 b4 e4 s4 q4
        cases q4
        have ec : Ext (asm.hide D) (upd (del H2 D) D (.lst accV)) as4 H4 := by rw [eH]; exact e3.trans e4
        cases b with
        | false =>
          rw [if_neg Bool.false_ne_true] at wb ⊢
          obtain ⟨u1, u2, u3⟩ := Ext.unhide nm nhm ec
          rw [u2] at s4
          exact ⟨hlt, ⟨as4.cells, asm.hid⟩, Sb, accV, accP, u3, by omega, em.trans u1, s4.unhide nhm ⟨_, u3⟩, tm.mono u1.w, WF.later u1 wb⟩
        | true =>
          rw [if_pos rfl] at wb ⊢
          rw [bind_assoc'] at wb
          obtain ⟨y, Sy, ey, wy⟩ := nox_cases (fun r => WF (wd X) (E σ) asm (del H2 D) r Q) (fun z => z) wb
          refine ⟨as4, δ2, Sb, s4, er2.mono e4.w, ?_⟩
          rw [ey]
          intro as5 H5 J1 e5 s5 y5
          obtain ⟨zs, ck1⟩ := y
          dsimp only at wy y5
          have hz1 : zs.length ≤ 1000 := by
            refine Classical.byContradiction fun n => ?_
            rw [if_neg n] at wy
            exact wy
          rw [if_pos hz1] at wy
          have ec5 : Ext (asm.hide D) (upd (del H2 D) D (.lst accV)) as5 H5 := ec.trans e5
          have er5 : ER (wd X) as5 H5 σ2 δ2 := (er2.mono e4.w).mono e5.w
          obtain ⟨u1, u2, u3⟩ := Ext.unhide nm nhm ec5
          have nm5 : del H5 D D = none := del_same _ _
          have eH5 : upd (del H5 D) D (.lst accV) = H5 := upd_del u3
          have s5' := s5
          rw [u2] at s5'
          have s5u := s5'.unhide nhm ⟨_, u3⟩
          refine ⟨fun j k H6 => k = zs.length - j ∧ j ≤ zs.length ∧ ∃ (asn : As) (Sn : AH) (accV' : List V) (accP' : List PV), H6 D = some (.lst accV') ∧ accV'.length ≤ 1000 * i + j ∧ Ext ⟨as5.cells, asm.hid⟩ (del H5 D) asn (del H6 D) ∧ SR (wd X) asn (del H6 D) Sn ∧ PRs (wd X) asn (del H6 D) accV' accP' ∧
            WF (wd X) (E σ) asn (del H6 D) (((lcGo ck1 q1 fc1 fe (wipeD δ2 vs1) (zs.drop j) Sn).bind fun us S3 => (lc2Go ck q fc fi1 q1 fc1 fe vs1 (wipeD δ vs) (xs.drop (i + 1)) S3).bind fun ys S4 => .ok (us ++ ys) S4).bind fun ys S => .ok (accP' ++ ys) S) Q,
            ⟨zs.length, rfl, Nat.zero_le _, ⟨as5.cells, asm.hid⟩, Sy, accV, accP, u3, by omega, Ext.refl _ _, s5u, tm.mono u1.w, by
              rw [List.drop_zero]
              exact WF.later u1 wy⟩, ?_⟩
          rintro j k H6 ⟨rfl, hj, asn, Sn, accV', accP', hD6, hlen6, en, sn, tn, wn⟩
          have eH6 : upd (del H6 D) D (.lst accV') = H6 := upd_del hD6
          have nm6 : del H6 D D = none := del_same _ _
          have nhn : ¬ asn.hid D := by rw [en.hids]; exact nhm
          have sh6 : SR (wd X) (asn.hide D) H6 Sn := by have := sn.hide (o := .lst accV') nm6; rw [eH6] at this; exact this
          have xw6 : Exw as5 H5 (asn.hide D) H6 := by
            have := en.w.hide2 (o := .lst accV) (o' := .lst accV') nm5
            rw [eH5, eH6, ← u2] at this
            exact this
          by_cases hltj : j < zs.length
          · have hxj : zs[j]? = some zs[j] := List.getElem?_eq_getElem hltj
            have hdj : zs.drop j = zs[j] :: zs.drop (j + 1) := List.drop_eq_getElem_cons hltj
            rw [hdj] at wn
            unfold lcGo at wn
            have hck1 : ck1 Sn := by
              refine Classical.byContradiction fun n => ?_
              rw [if_neg n] at wn
              exact wn
            rw [if_pos hck1] at wn
            refine .inr ⟨y5.go _ _ _ xw6 sh6 hck1 j hltj, fun H' => (j + 1 ≤ zs.length ∧ ∃ (asn : As) (Sn : AH) (accV' : List V) (accP' : List PV), H' D = some (.lst accV') ∧ accV'.length ≤ 1000 * i + (j + 1) ∧ Ext ⟨as5.cells, asm.hid⟩ (del H5 D) asn (del H' D) ∧ SR (wd X) asn (del H' D) Sn ∧ PRs (wd X) asn (del H' D) accV' accP' ∧
              WF (wd X) (E σ) asn (del H' D) (((lcGo ck1 q1 fc1 fe (wipeD δ2 vs1) (zs.drop (j + 1)) Sn).bind fun us S3 => (lc2Go ck q fc fi1 q1 fc1 fe vs1 (wipeD δ vs) (xs.drop (i + 1)) S3).bind fun ys S4 => .ok (us ++ ys) S4).bind fun ys S => .ok (accP' ++ ys) S) Q), fun H' n => ⟨zs.length - (j + 1), by omega, rfl, n.1, n.2⟩, fun v' H' yv' => ?_⟩
            obtain ⟨e7, s7, r7⟩ := y5.yld _ _ _ xw6 sh6 hck1 j _ v' H' hxj yv'
            cases eq1 : q1.set zs[j] (wipeD δ2 vs1) with
            | none => rw [eq1] at wn; exact wn.elim
            | some δ3 =>
              rw [eq1] at wn
              dsimp only at wn
              rw [bind_assoc', bind_assoc'] at wn
              have erh7 : ER (wd X) (asn.hide D) H' (L2.wipe σ2 vs1) (wipeD δ2 vs1) := ((er5.mono xw6).wipe vs1).mono e7.w
              refine tPat_ok (M := wd X) q1 erh7 r7 eq1 fun σ3 er3 wi3 => ⟨by rw [wi3 vs1 hq1, wipe_idem], ?_⟩
              obtain ⟨b1, Sb1, eb1, wb1⟩ := nox_cases (fun r => WF (wd X) (E σ) asn (del H6 D) r Q) (fun z => z) wn
              refine ⟨asn.hide D, δ3, Sn, s7, er3, ?_⟩
              rw [eb1]
              intro as8 H8 b8 e8 s8 q8
              cases q8
              have ec8 : Ext (asn.hide D) (upd (del H6 D) D (.lst accV')) as8 H8 := by rw [eH6]; exact e7.trans e8
              cases b1 with
              | false =>
                rw [if_neg Bool.false_ne_true] at wb1 ⊢
                obtain ⟨v1, v2, v3⟩ := Ext.unhide nm6 nhn ec8
                rw [v2] at s8
                refine ⟨hltj, ⟨as8.cells, asn.hid⟩, Sb1, accV', accP', v3, by omega, en.trans v1, s8.unhide nhn ⟨_, v3⟩, tn.mono v1.w, ?_⟩
                rw [bind_assoc']
                exact WF.later v1 wb1
              | true =>
                rw [if_pos rfl] at wb1 ⊢
                rw [bind_assoc'] at wb1
                obtain ⟨d, Sd, ed, wd'⟩ := nox_cases (fun r => WF (wd X) (E σ) asn (del H6 D) r Q) (fun z => z) wb1
                refine ⟨as8, δ3, Sb1, s8, er3.mono e8.w, ?_⟩
                rw [ed]
                intro as9 H9 yy e9 s9 r9
                have ec9 : Ext (asn.hide D) (upd (del H6 D) D (.lst accV')) as9 H9 := ec8.trans e9
                obtain ⟨v1, v2, v3⟩ := Ext.unhide nm6 nhn ec9
                rw [v2] at s9 r9
                cases d with
                | c n => exact wd'.elim
                | p yp =>
                  refine ⟨accV', v3, by omega, hltj, ⟨as9.cells, asn.hid⟩, Sd, accV' ++ [yy], accP' ++ [yp], upd_same, by rw [List.length_append, List.length_singleton]; omega, ?_⟩
                  rw [del_updu]
                  refine ⟨en.trans v1, s9.unhide nhn ⟨_, v3⟩, (tn.mono v1.w).append (.cons (PR.unhide r9) .nil), ?_⟩
                  refine WF.later v1 ?_
                  have e : (((lcGo ck1 q1 fc1 fe (wipeD δ2 vs1) (zs.drop (j + 1)) Sd).bind fun us S3 => (lc2Go ck q fc fi1 q1 fc1 fe vs1 (wipeD δ vs) (xs.drop (i + 1)) S3).bind fun ys S4 => Res.ok (us ++ ys) S4).bind fun ys S => Res.ok (accP' ++ [yp] ++ ys) S) =
                      ((lcGo ck1 q1 fc1 fe (wipeD δ2 vs1) (zs.drop (j + 1)) Sd).bind fun us S => Res.ok (yp :: us) S).bind fun us S3 => ((lc2Go ck q fc fi1 q1 fc1 fe vs1 (wipeD δ vs) (xs.drop (i + 1)) S3).bind fun ys S4 => Res.ok (us ++ ys) S4).bind fun ys S => Res.ok (accP' ++ ys) S := by
                    cases lcGo ck1 q1 fc1 fe (wipeD δ2 vs1) (zs.drop (j + 1)) Sd with
                    | ok us S3 =>
                      simp only [Res.bind]
                      cases lc2Go ck q fc fi1 q1 fc1 fe vs1 (wipeD δ vs) (xs.drop (i + 1)) S3 <;> simp [Res.bind]
                    | exc c p S3 => rfl
                    | bad => rfl
                  rw [e]
                  exact wd'
          · have hj' : j = zs.length := by omega
            subst hj'
            rw [List.drop_length] at wn
            unfold lcGo at wn
            have hck1 : ck1 Sn := by
              refine Classical.byContradiction fun n => ?_
              rw [if_neg n] at wn
              exact wn
            rw [if_pos hck1] at wn
            refine .inl ⟨y5.stop _ _ _ xw6 sh6 hck1, hlt, asn, Sn, accV', accP', hD6, by omega, (em.trans u1).trans en, sn, tn, ?_⟩
            have e : ((Res.ok ([] : List PV) Sn).bind fun us S3 => (lc2Go ck q fc fi1 q1 fc1 fe vs1 (wipeD δ vs) (xs.drop (i + 1)) S3).bind fun ys S4 => Res.ok (us ++ ys) S4).bind (fun ys S => Res.ok (accP' ++ ys) S) = (lc2Go ck q fc fi1 q1 fc1 fe vs1 (wipeD δ vs) (xs.drop (i + 1)) Sn).bind fun ys S => Res.ok (accP' ++ ys) S := by
              simp only [Res.bind]
              cases lc2Go ck q fc fi1 q1 fc1 fe vs1 (wipeD δ vs) (xs.drop (i + 1)) Sn <;> simp [Res.bind]
            rw [e] at wn
            exact wn
    · have hi' : i = xs.length := by omega
      subst hi'
      rw [List.drop_length] at wm
      unfold lc2Go at wm
      have hck : ck Sm := by
        refine Classical.byContradiction fun n => ?_
        rw [if_neg n] at wm
        exact wm
      rw [if_pos hck] at wm
      refine .inl ⟨y1.stop _ _ _ xw sh hck, ?_⟩
      have wq : WF (wd X) (E σ) asm (del H2 D) (Res.ok (accP ++ []) Sm) Q := wm
      rw [List.append_nil] at wq
      have := wq.here sm (by omega) tm nm
      rw [eH] at this
      exact this
theorem fe_lc2 {vs1 : List Nat} (g : Gd X E) (hN : X.N.Nodup) (hi : DI X E tg iter fi) (ok : BlkOk X.N X.env.scope scope own) (hv : ∀ i ∈ vs1, i ∈ own.map (·.2))
    (hg : ∀ (s : Shared) (H : Hp) (C : Addr) (cl : List (Str × Addr)) (fp : List Addr), DG (X.blk s H scope (compEnvC scope cl C X.env) fp) tg q) (ht : ∀ (s : Shared) (H : Hp) (C : Addr) (cl : List (Str × Addr)) (fp : List Addr), DTs (X.blk s H scope (compEnvC scope cl C X.env) fp) EN ifs fc)
    (hi1 : ∀ (s : Shared) (H : Hp) (C : Addr) (cl : List (Str × Addr)) (fp : List Addr), DI (X.blk s H scope (compEnvC scope cl C X.env) fp) EN tg1 iter1 fi1)
    (hg1 : ∀ (s : Shared) (H : Hp) (C : Addr) (cl : List (Str × Addr)) (fp : List Addr), DG (X.blk s H scope (compEnvC scope cl C X.env) fp) tg1 q1) (ht1 : ∀ (s : Shared) (H : Hp) (C : Addr) (cl : List (Str × Addr)) (fp : List Addr), DTs (X.blk s H scope (compEnvC scope cl C X.env) fp) EN ifs1 fc1)
    (he : ∀ (s : Shared) (H : Hp) (C : Addr) (cl : List (Str × Addr)) (fp : List Addr), DE (X.blk s H scope (compEnvC scope cl C X.env) fp) EN elt fe) (hq : ∀ i ∈ q.slots, i ∈ own.map (·.2)) (hq1 : ∀ i ∈ q1.slots, i ∈ vs1) (hs : ∀ x, foldedSetIterable iter X.env x = pure x := by intro _; rfl) (hs1 : ∀ env x, foldedSetIterable iter1 env x = pure x := by intro _ _; rfl) :
    FE X E (.ListComp elt [⟨tg, iter, ifs, 0⟩, ⟨tg1, iter1, ifs1, 0⟩] scope pos) (dLc2 fi q fc fi1 q1 fc1 fe (own.map (·.2)) vs1) :=
  L2.PE.imp (pe_lc2 g.calm hN hi ok hv hg ht hi1 hg1 ht1 he hs hs1) fun σ H Q ⟨as, δ, S, sr, er, w⟩ => lc2_t hq hq1 sr er w
end
end
end DL
namespace DL
noncomputable section
open PySem PySem.Spec PyProof.Rows L2

/-! ### min of a tuple of numbers -/
def minO2 : OpN := fun ds S => match ds with
  | [.p (.tup xs)] => match intsOf xs with
    | some ns => if ns ≠ [] then some (.p (.int (minI ns)), S) else none
    | none => none
  | _ => minO ds S
theorem fold_min : ∀ (xs : List Int) (x : Int), PySem.W.minOf x xs ∈ x :: xs ∧ ∀ y ∈ x :: xs, PySem.W.minOf x xs ≤ y
  | [], x => ⟨List.mem_cons_self, fun y hy => by rw [List.mem_singleton.mp hy]; exact Int.le_refl _⟩
  | a :: xs, x => by
    have e : PySem.W.minOf x (a :: xs) = PySem.W.minOf (if a < x then a else x) xs := by
      show xs.foldl _ (if decide (a < x) = true then a else x) = _
      simp only [decide_eq_true_eq]
      rfl
    rw [e]
    obtain ⟨h1, h2⟩ := fold_min xs (if a < x then a else x)
    constructor
    · rcases List.mem_cons.mp h1 with h | h
      · rw [h]
        split
        · simp
        · simp
      · exact List.mem_cons_of_mem _ (List.mem_cons_of_mem _ h)
    · intro y hy
      have m := h2 _ List.mem_cons_self
      have z : (if a < x then a else x) ≤ a ∧ (if a < x then a else x) ≤ x := by split <;> omega
      rcases List.mem_cons.mp hy with rfl | hy
      · exact Int.le_trans m z.2
      · rcases List.mem_cons.mp hy with rfl | hy
        · exact Int.le_trans m z.1
        · exact h2 y (List.mem_cons_of_mem _ hy)
section
variable {X : Cx}
theorem cr_minT (hc : X.calm = true) (hu : X.A.units + 64 < cLine) : CallR X (.builtin "min") (fun vs H Q => ∃ (a : Addr) (ns : List Int), vs = [V.ref a] ∧ SqT X.K H a (ns.map V.int) ∧ ns ≠ [] ∧ Q (.int (minI ns)) H) := by
  intro pins s σ H vs us Q I r h
  obtain ⟨a, ns, rfl, hs, hn, q⟩ := h
  obtain ⟨its, rv, ht, _⟩ := I.tuple hs
  rw [Vals.ref1 r]
  cases ns with
  | nil => exact absurd rfl hn
  | cons x xs =>
    refine PySem.W.min_tuple_datum (α := Int) (I.ok.hd hc) (show s.heap.IsTuple a its.toArray from ht) (x := x) (xs := xs) (by simpa using PySem.W.HoldAll.of_ints rv.ints) (by show X.A.units + 1 + 0 < cLine; omega) fun i v h' tk hi hv hk => ?_
    obtain ⟨t, rfl⟩ := PySem.W.int_of_holds hv
    have e : PySem.W.minOf x xs = minI (x :: xs) := by
      obtain ⟨h1, h2⟩ := fold_min xs x
      obtain ⟨g1, g2⟩ := minI_mem (x :: xs) hn
      exact Int.le_antisymm (h2 _ g1) (g2 _ h1)
    rw [e]
    exact ⟨.int _, H, I.kept hk, ⟨_, rfl⟩, q⟩
theorem ow_min2 (hc : X.calm = true) (hu : X.A.units + 64 < cLine) : CallR X (.builtin "min") (rON (wd X) minO2) := by
  intro pins s σ H vs us Q I rv h
  obtain ⟨as, S, ds, sr, r, w⟩ := h
  unfold minO2 at w
  split at w
  · obtain ⟨v, rfl, r1⟩ := DVRs.one r
    cases r1 with
    | tup hh t =>
      split at w
      · rename_i ns e2
        rw [intsOf_ok e2] at t
        have q := hh.sq
        rw [t.ints] at q
        split at w
        · rename_i hne
          exact cr_minT hc hu pins s σ H _ us Q I rv ⟨_, ns, rfl, q, hne, w.here sr (.int _)⟩
        · exact w.elim
      · exact w.elim
  · exact ow_min hc pins s σ H vs us Q I rv ⟨as, S, ds, sr, r, w⟩
theorem min2_tup {l : List Int} {S : AH} (hn : l ≠ []) : minO2 [.p (.tup (l.map PV.int))] S = some (.p (.int (minI l)), S) := by
  unfold minO2
  simp only [intsOf_map]
  rw [if_pos hn]
@[simp] theorem min2_int {i j : Int} {S : AH} : minO2 [.p (.int i), .p (.int j)] S = some (.p (.int (if j < i then j else i)), S) := rfl
end
end
end DL
namespace DL
open PySem PySem.Spec PyProof.Rows L2
def topS (i : Nat) : Stmt := PySem.Challenge.pw_carrierroads_k17_whole_pairs_of_heaps.main.body.getD i (.Pass ⟨0, 0, 0, 0⟩)
def sub_Malformed : Str → Option Bool := fun n => if n = "Malformed" then some true else none
theorem own_Malformed : ∀ n : Str, sub_Malformed n = some true → n = "Malformed" := fun n h => by
  unfold sub_Malformed at h
  by_cases e : n = "Malformed"
  · exact e
  · rw [if_neg e] at h
    first
      | cases h
      | (split at h <;> cases h)
abbrev s_is_integer : Stmt := topS 4
theorem sc_is_integer : FnScope ["value"] ["value"] (defScope s_is_integer) := ⟨rfl, rfl, rfl, by decide +kernel, rfl, by decide +kernel, by decide +kernel⟩
noncomputable def b_is_integer_ : Sig → AH → Out := (dRet (dAndV (dIsi "int" (dVar 0)) (dNotV (dIsi "bool" (dVar 0)))))
noncomputable def d_is_integer : List DV → AH → Res DV := dDef 1 1 false b_is_integer_
abbrev s_counted : Stmt := topS 10
theorem sc_counted : FnScope ["letters", "n", "a", "k"] ["letters", "n"] (defScope s_counted) := ⟨rfl, rfl, rfl, by decide +kernel, rfl, by decide +kernel, by decide +kernel⟩
noncomputable def b_counted_ : Sig → AH → Out := (dRet (dApp tupleO (dCons (dVal (dLc (dRng1 (dCons (dBin addO (dVar 1) (dC (.int 1))) dNil)) (.nm 3) dYes (dApp lenO (dCons (dVal (dLc (dSeqI (dVar 0)) (.nm 2) (blOf (dBin eqO (dVar 2) (dVar 3))) (dVar 2) [2])) dNil)) [3])) dNil)))
noncomputable def d_counted : List DV → AH → Res DV := dDef 4 2 false b_counted_
abbrev s_has_rows : Stmt := topS 12
theorem sc_has_rows : FnScope ["value", "before", "total", "row"] ["value"] (defScope s_has_rows) := ⟨rfl, rfl, rfl, by decide +kernel, rfl, by decide +kernel, by decide +kernel⟩
noncomputable def L0_has_rows : Sig → AH → Out := (dSeq (dIf (dOr (dNot (dTru (dIsi "tuple" (dVar 3)))) (dOr (blOf (dBin ltO (dApp lenO (dCons (dVar 3) dNil)) (dC (.int 1)))) (blOf (dBin gtO (dApp lenO (dCons (dVar 3) dNil)) (dVar 1))))) (dRet (dC (.bl false))) dPass)
    (dSeq (dSet 1 (dApp lenO (dCons (dVar 3) dNil)))
    (dSet 2 (dBin addO (dVar 2) (dVar 1)))))
noncomputable def b_has_rows_ : Sig → AH → Out := (dSeq (dIf (dNot (dTru (dIsi "tuple" (dVar 0)))) (dRet (dC (.bl false))) dPass)
    (dSeq (dSet 1 (dC (.int 12)))
    (dSeq (dSet 2 (dC (.int 0)))
    (dSeq (dFor (dSeqI (dVar 0)) (.nm 3) L0_has_rows)
    (dRet (dBin leO (dVar 2) (dC (.int 12))))))))
noncomputable def d_has_rows : List DV → AH → Res DV := dDef 4 1 false b_has_rows_
abbrev s_ascends : Stmt := topS 13
theorem sc_ascends : FnScope ["rows", "i", "j"] ["rows"] (defScope s_ascends) := ⟨rfl, rfl, rfl, by decide +kernel, rfl, by decide +kernel, by decide +kernel⟩
noncomputable def L0_ascends : Sig → AH → Out := (dSeq (dIf (dAnd (blOf (dBin gtO (dVar 2) (dC (.int 0)))) (blOf (dBin gtO (dBin ixO (dBin ixO (dVar 0) (dVar 1)) (dBin subO (dVar 2) (dC (.int 1)))) (dBin ixO (dBin ixO (dVar 0) (dVar 1)) (dVar 2))))) (dRet (dC (.bl false))) dPass)
    (dIf (dAnd (blOf (dBin gtO (dVar 1) (dC (.int 0)))) (blOf (dBin geO (dBin ixO (dBin ixO (dVar 0) (dBin subO (dVar 1) (dC (.int 1)))) (dVar 2)) (dBin ixO (dBin ixO (dVar 0) (dVar 1)) (dVar 2))))) (dRet (dC (.bl false))) dPass))
noncomputable def L1_ascends : Sig → AH → Out := (dFor (dRng1 (dCons (dApp lenO (dCons (dBin ixO (dVar 0) (dVar 1)) dNil)) dNil)) (.nm 2) L0_ascends)
noncomputable def b_ascends_ : Sig → AH → Out := (dSeq (dFor (dRng1 (dCons (dApp lenO (dCons (dVar 0) dNil)) dNil)) (.nm 1) L1_ascends)
    (dRet (dC (.bl true))))
noncomputable def d_ascends : List DV → AH → Res DV := dDef 3 1 false b_ascends_
abbrev s_is_tableau : Stmt := topS 14
theorem sc_is_tableau : FnScope ["value", "row", "item"] ["value"] (defScope s_is_tableau) := ⟨rfl, rfl, rfl, by decide +kernel, rfl, by decide +kernel, by decide +kernel⟩
noncomputable def L0_is_tableau : Sig → AH → Out := (dIf (dOr (dNot (dTru (dCall d_is_integer (dCons (dVar 2) dNil)))) (dOr (blOf (dBin ltO (dVar 2) (dC (.int 1)))) (blOf (dBin gtO (dVar 2) (dC (.int 6)))))) (dRet (dC (.bl false))) dPass)
noncomputable def L1_is_tableau : Sig → AH → Out := (dFor (dSeqI (dVar 1)) (.nm 2) L0_is_tableau)
noncomputable def b_is_tableau_ : Sig → AH → Out := (dSeq (dIf (dNot (dTru (dCall d_has_rows (dCons (dVar 0) dNil)))) (dRet (dC (.bl false))) dPass)
    (dSeq (dFor (dSeqI (dVar 0)) (.nm 1) L1_is_tableau)
    (dRet (dCall d_ascends (dCons (dVar 0) dNil)))))
noncomputable def d_is_tableau : List DV → AH → Res DV := dDef 3 1 false b_is_tableau_
abbrev s_shape_of : Stmt := topS 15
theorem sc_shape_of : FnScope ["rows", "row"] ["rows"] (defScope s_shape_of) := ⟨rfl, rfl, rfl, by decide +kernel, rfl, by decide +kernel, by decide +kernel⟩
noncomputable def b_shape_of_ : Sig → AH → Out := (dRet (dApp tupleO (dCons (dVal (dLc (dSeqI (dVar 0)) (.nm 1) dYes (dApp lenO (dCons (dVar 1) dNil)) [1])) dNil)))
noncomputable def d_shape_of : List DV → AH → Res DV := dDef 2 1 false b_shape_of_
abbrev s_without_box : Stmt := topS 16
theorem sc_without_box : FnScope ["rows", "i"] ["rows", "i"] (defScope s_without_box) := ⟨rfl, rfl, rfl, by decide +kernel, rfl, by decide +kernel, by decide +kernel⟩
noncomputable def b_without_box_ : Sig → AH → Out := (dSeq (dIf (blOf (dBin eqO (dApp lenO (dCons (dBin ixO (dVar 0) (dVar 1)) dNil)) (dC (.int 1)))) (dRet (dSl (dVar 0) dNoPart (dPart (dVar 1)))) dPass)
    (dRet (dBin addO (dBin addO (dSl (dVar 0) dNoPart (dPart (dVar 1))) (dTup (dCons (dSl (dBin ixO (dVar 0) (dVar 1)) dNoPart (dPart (dUn negO (dC (.int 1))))) dNil))) (dSl (dVar 0) (dPart (dBin addO (dVar 1) (dC (.int 1)))) dNoPart))))
noncomputable def d_without_box : List DV → AH → Res DV := dDef 2 2 false b_without_box_
abbrev s_taken : Stmt := topS 17
theorem sc_taken : FnScope ["rows", "i", "letter", "found", "k", "row", "at", "j"] ["rows", "i"] (defScope s_taken) := ⟨rfl, rfl, rfl, by decide +kernel, rfl, by decide +kernel, by decide +kernel⟩
noncomputable def L0_taken : Sig → AH → Out := (dSeq (dSet 5 (dBin ixO (dVar 3) (dVar 4)))
    (dSeq (dSet 6 (dApp maxO (dCons (dVal (dLc (dRng1 (dCons (dApp lenO (dCons (dVar 5) dNil)) dNil)) (.nm 7) (blOf (dBin ltO (dBin ixO (dVar 5) (dVar 7)) (dVar 2))) (dVar 7) [7])) dNil)))
    (dSeq (dSub (dBin addO (dBin addO (dSl (dVar 5) dNoPart (dPart (dVar 6))) (dTup (dCons (dVar 2) dNil))) (dSl (dVar 5) (dPart (dBin addO (dVar 6) (dC (.int 1)))) dNoPart)) (dVar 3) (dVar 4))
    (dSet 2 (dBin ixO (dVar 5) (dVar 6))))))
noncomputable def b_taken_ : Sig → AH → Out := (dSeq (dSet 2 (dBin ixO (dBin ixO (dVar 0) (dVar 1)) (dUn negO (dC (.int 1)))))
    (dSeq (dSet 3 (dCell (dAppF listF (dCons (dCall d_without_box (dCons (dVar 0) (dCons (dVar 1) dNil))) dNil))))
    (dSeq (dFor (dRng3 (dCons (dBin subO (dVar 1) (dC (.int 1))) (dCons (dUn negO (dC (.int 1))) (dCons (dUn negO (dC (.int 1))) dNil)))) (.nm 4) L0_taken)
    (dRet (dTup (dCons (dApp tupleO (dCons (dVar 3) dNil)) (dCons (dVar 2) dNil)))))))
noncomputable def d_taken : List DV → AH → Res DV := dDef 8 2 false b_taken_
abbrev s_pair_of_heaps : Stmt := topS 19
theorem sc_pair_of_heaps : FnScope ["p", "a", "b", "n", "value", "row", "item", "shape", "rows", "letters", "i", "count", "_", "letter"] ["p", "a", "b", "n"] (defScope s_pair_of_heaps) := ⟨rfl, rfl, rfl, by decide +kernel, rfl, by decide +kernel, by decide +kernel⟩
noncomputable def L0_pair_of_heaps : Sig → AH → Out := (dIf (dOr (dNot (dTru (dCall d_is_integer (dCons (dVar 4) dNil)))) (dOr (blOf (dBin ltO (dVar 4) (dC (.int 1)))) (blOf (dBin gtO (dVar 4) (dC (.int 8)))))) (dRaise "Malformed") dPass)
noncomputable def L1_pair_of_heaps : Sig → AH → Out := (dSeq (dAsg (.tp [(.nm 8), (.nm 13)]) (dCall d_taken (dCons (dVar 8) (dCons (dVar 10) dNil))))
    (dDrop (dMeth appendM (dVar 9) (dCons (dBin subO (dVar 13) (dC (.int 1))) dNil))))
noncomputable def L2_pair_of_heaps : Sig → AH → Out := (dFor (dRng1 (dCons (dVar 11) dNil)) (.nm 12) L1_pair_of_heaps)
noncomputable def b_pair_of_heaps_ : Sig → AH → Out := (dSeq (dIf (dOr (dNot (dTru (dCall d_is_integer (dCons (dVar 3) dNil)))) (dOr (blOf (dBin ltO (dVar 3) (dC (.int 1)))) (blOf (dBin gtO (dVar 3) (dC (.int 3)))))) (dRaise "Malformed") dPass)
    (dSeq (dFor (dSeqI (dTup (dCons (dVar 1) (dCons (dVar 2) dNil)))) (.nm 4) L0_pair_of_heaps)
    (dSeq (dIf (dOr (dNot (dTru (dCall d_is_tableau (dCons (dVar 0) dNil)))) (blOf (dBin gtO (dApp maxO (dCons (dBin addO (dVal (dLc2 (dSeqI (dVar 0)) (.nm 5) dYes (dSeqI (dVar 5)) (.nm 6) dYes (dVar 6) [5, 6] [6])) (dVal (dLst (dCons (dC (.int 1)) dNil)))) dNil)) (dBin addO (dVar 3) (dC (.int 1)))))) (dRaise "Malformed") dPass)
    (dSeq (dSet 7 (dBin addO (dCall d_shape_of (dCons (dVar 0) dNil)) (dTup (dCons (dC (.int 0)) (dCons (dC (.int 0)) dNil)))))
    (dSeq (dIf (dOr (blOf (dBin gtO (dApp lenO (dCons (dVar 0) dNil)) (dC (.int 2)))) (dOr (blOf (dBin neO (dApp sumO (dCons (dVar 7) dNil)) (dBin addO (dVar 1) (dVar 2)))) (dOr (blOf (dBin gtO (dBin ixO (dVar 7) (dC (.int 1))) (dVar 1))) (blOf (dBin gtO (dBin ixO (dVar 7) (dC (.int 1))) (dVar 2)))))) (dRet (dC .non)) dPass)
    (dSeq (dSet 8 (dVar 0))
    (dSeq (dSet 9 (dCell (dLst dNil)))
    (dSeq (dFor (dSeqI (dTup (dCons (dTup (dCons (dC (.int 0)) (dCons (dBin subO (dBin ixO (dVar 7) (dC (.int 0))) (dVar 2)) dNil))) (dCons (dTup (dCons (dC (.int 1)) (dCons (dBin ixO (dVar 7) (dC (.int 1))) dNil))) dNil)))) (.tp [(.nm 10), (.nm 11)]) L2_pair_of_heaps)
    (dRet (dTup (dCons (dCall d_counted (dCons (dVar 9) (dCons (dVar 3) dNil))) (dCons (dCall d_counted (dCons (dVal (dLc (dSeqI (dBin ixO (dVar 8) (dC (.int 0)))) (.nm 6) dYes (dBin subO (dVar 6) (dC (.int 1))) [6])) (dCons (dVar 3) dNil))) dNil))))))))))))
noncomputable def d_pair_of_heaps : List DV → AH → Res DV := dDef 14 4 false b_pair_of_heaps_
abbrev s_law_state : Stmt := topS 21
theorem sc_law_state : FnScope ["script", "seed", "total", "cell"] ["script"] (defScope s_law_state) := ⟨rfl, rfl, rfl, by decide +kernel, rfl, by decide +kernel, by decide +kernel⟩
noncomputable def L0_law_state : Sig → AH → Out := (dSeq (dSet 1 (dBin addO (dBin mulO1 (dVar 1) (dC (.int 1000003))) (dApp absO (dCons (dVar 3) dNil))))
    (dSet 2 (dBin modO (dApp intO (dCons (dBin addO (dBin mulO1 (dVar 2) (dC (.int 48271))) (dVar 3)) dNil)) (dC (.int 2147483647)))))
noncomputable def b_law_state_ : Sig → AH → Out := (dSeq (dSet 1 (dC (.int 0)))
    (dSeq (dSet 2 (dC (.int 1)))
    (dSeq (dFor (dSeqI (dSl (dVar 0) dNoPart (dPart (dC (.int 63))))) (.nm 3) L0_law_state)
    (dRet (dCell (dLst (dCons (dVar 1) (dCons (dVar 2) dNil))))))))
noncomputable def d_law_state : List DV → AH → Res DV := dDef 4 1 true b_law_state_
abbrev s_law_take : Stmt := topS 22
theorem sc_law_take : FnScope ["state", "m", "value"] ["state", "m"] (defScope s_law_take) := ⟨rfl, rfl, rfl, by decide +kernel, rfl, by decide +kernel, by decide +kernel⟩
noncomputable def b_law_take_ : Sig → AH → Out := (dSeq (dIf (blOf (dBin gtO (dBin ixO (dVar 0) (dC (.int 0))) (dC (.int 0)))) (dSeq (dSet 2 (dBin modO (dApp intO (dCons (dBin ixO (dVar 0) (dC (.int 0))) dNil)) (dVar 1)))
    (dSeq (dSub (dBin divO (dBin ixO (dVar 0) (dC (.int 0))) (dVar 1)) (dVar 0) (dC (.int 0)))
    (dRet (dVar 2)))) dPass)
    (dSeq (dSub (dBin modO (dApp intO (dCons (dBin addO (dBin mulO1 (dBin ixO (dVar 0) (dC (.int 1))) (dC (.int 48271))) (dC (.int 11))) dNil)) (dC (.int 2147483647))) (dVar 0) (dC (.int 1)))
    (dRet (dBin modO (dApp intO (dCons (dBin divO (dBin ixO (dVar 0) (dC (.int 1))) (dC (.int 7))) dNil)) (dVar 1)))))
noncomputable def d_law_take : List DV → AH → Res DV := dDef 3 2 false b_law_take_
abbrev s_law_plain : Stmt := topS 23
theorem sc_law_plain : FnScope ["value", "item"] ["value"] (defScope s_law_plain) := ⟨rfl, rfl, rfl, by decide +kernel, rfl, by decide +kernel, by decide +kernel⟩
noncomputable def d_law_plain : Nat → List DV → AH → Res DV
  | 0 => fun _ _ => .bad
  | n + 1 => dDef 2 1 false ((dSeq (dIf (dTru (dIsi "tuple" (dVar 0))) (dRet (dApp tupleO (dCons (dVal (dLc (dSeqI (dVar 0)) (.nm 1) dYes (dCall (d_law_plain n) (dCons (dVar 1) dNil)) [1])) dNil))) dPass)
    (dSeq (dIf (dOr (blOf (dBin isO (dVar 0) (dC .non))) (dOr (dTru (dIsi "str" (dVar 0))) (dAnd (dTru (dIsi "int" (dVar 0))) (dNot (dTru (dIsi "bool" (dVar 0))))))) (dRet (dVar 0)) dPass)
    (dRet (dC (.str "odd"))))))
abbrev s_law_word : Stmt := topS 24
theorem sc_law_word : FnScope ["state", "most", "letters", "k"] ["state", "most", "letters"] (defScope s_law_word) := ⟨rfl, rfl, rfl, by decide +kernel, rfl, by decide +kernel, by decide +kernel⟩
noncomputable def b_law_word_ : Sig → AH → Out := (dRet (dApp tupleO (dCons (dVal (dLc (dRng1 (dCons (dCall d_law_take (dCons (dVar 0) (dCons (dBin addO (dVar 1) (dC (.int 1))) dNil))) dNil)) (.nm 3) dYes (dBin addO (dC (.int 1)) (dCall d_law_take (dCons (dVar 0) (dCons (dVar 2) dNil)))) [3])) dNil)))
noncomputable def d_law_word : List DV → AH → Res DV := dDef 4 3 false b_law_word_
abbrev s_law_frozen : Stmt := topS 25
theorem sc_law_frozen : FnScope ["rows", "row"] ["rows"] (defScope s_law_frozen) := ⟨rfl, rfl, rfl, by decide +kernel, rfl, by decide +kernel, by decide +kernel⟩
noncomputable def b_law_frozen_ : Sig → AH → Out := (dRet (dApp tupleO (dCons (dVal (dLc (dSeqI (dVar 0)) (.nm 1) dYes (dApp tupleO (dCons (dVar 1) dNil)) [1])) dNil)))
noncomputable def d_law_frozen : List DV → AH → Res DV := dDef 2 1 false b_law_frozen_
abbrev s_law_bump : Stmt := topS 26
theorem sc_law_bump : FnScope ["rows", "x", "row", "i", "greater", "k", "out"] ["rows", "x"] (defScope s_law_bump) := ⟨rfl, rfl, rfl, by decide +kernel, rfl, by decide +kernel, by decide +kernel⟩
noncomputable def L0_law_bump : Sig → AH → Out := (dSeq (dSetF 4 (dLc (dRng1 (dCons (dApp lenO (dCons (dBin ixO (dVar 0) (dVar 3)) dNil)) dNil)) (.nm 5) (blOf (dBin gtO (dBin ixO (dBin ixO (dVar 0) (dVar 3)) (dVar 5)) (dVar 1))) (dVar 5) [5]))
    (dSeq (dIf (blOf (dBin eqO (dApp lenO (dCons (dVar 4) dNil)) (dC (.int 0)))) (dSeq (dDrop (dMeth appendM (dBin ixO (dVar 0) (dVar 3)) (dCons (dVar 1) dNil)))
    (dRetT (dCons (dVar 0) (dCons (dVar 3) dNil)))) dPass)
    (dSeq (dSet 5 (dBin ixO (dVar 4) (dC (.int 0))))
    (dSeq (dSet 6 (dBin ixO (dBin ixO (dVar 0) (dVar 3)) (dVar 5)))
    (dSeq (dSub (dVar 1) (dBin ixO (dVar 0) (dVar 3)) (dVar 5))
    (dSet 1 (dVar 6)))))))
noncomputable def b_law_bump_ : Sig → AH → Out := (dSeq (dSet 0 (dNest (dLcK (dSeqI (dVar 0)) (.nm 2) dYes (dCell (dAppF listF (dCons (dVar 2) dNil))) [2])))
    (dSeq (dFor (dRng1 (dCons (dApp lenO (dCons (dVar 0) dNil)) dNil)) (.nm 3) L0_law_bump)
    (dSeq (dDrop (dMeth appendM (dVar 0) (dCons (dCell (dLst (dCons (dVar 1) dNil))) dNil)))
    (dRetT (dCons (dVar 0) (dCons (dBin subO (dApp lenO (dCons (dVar 0) dNil)) (dC (.int 1))) dNil))))))
noncomputable def d_law_bump : List DV → AH → Res DV := dDef 7 2 false b_law_bump_
abbrev s_law_pair : Stmt := topS 27
theorem sc_law_pair : FnScope ["word", "p", "q", "k", "i"] ["word"] (defScope s_law_pair) := ⟨rfl, rfl, rfl, by decide +kernel, rfl, by decide +kernel, by decide +kernel⟩
noncomputable def L0_law_pair : Sig → AH → Out := (dSeq (dAsg (.tp [(.nm 1), (.nm 4)]) (dCall d_law_bump (dCons (dVar 1) (dCons (dBin ixO (dVar 0) (dBin subO (dBin subO (dApp lenO (dCons (dVar 0) dNil)) (dC (.int 1))) (dVar 3))) dNil))))
    (dSeq (dIf (blOf (dBin eqO (dVar 4) (dApp lenO (dCons (dVar 2) dNil)))) (dDrop (dMeth appendM (dVar 2) (dCons (dCell (dLst dNil)) dNil))) dPass)
    (dDrop (dMeth appendM (dBin ixO (dVar 2) (dVar 4)) (dCons (dBin addO (dVar 3) (dC (.int 1))) dNil)))))
noncomputable def b_law_pair_ : Sig → AH → Out := (dSeq (dPar 1 2 (dCons (dNest (dLstK dNil)) (dCons (dNest (dLstK dNil)) dNil)))
    (dSeq (dFor (dRng1 (dCons (dApp lenO (dCons (dVar 0) dNil)) dNil)) (.nm 3) L0_law_pair)
    (dRet (dTup (dCons (dCall d_law_frozen (dCons (dVar 1) dNil)) (dCons (dCall d_law_frozen (dCons (dVar 2) dNil)) dNil))))))
noncomputable def d_law_pair : List DV → AH → Res DV := dDef 5 1 false b_law_pair_
abbrev s_law_heap : Stmt := topS 28
theorem sc_law_heap : FnScope ["state", "n", "most", "found", "a", "k"] ["state", "n", "most"] (defScope s_law_heap) := ⟨rfl, rfl, rfl, by decide +kernel, rfl, by decide +kernel, by decide +kernel⟩
noncomputable def L0_law_heap : Sig → AH → Out := (dAugS (intO2 fun i j => i + j) (dVar 3) (dCall d_law_take (dCons (dVar 0) (dCons (dBin addO (dVar 1) (dC (.int 1))) dNil))) (dC (.int 1)))
noncomputable def b_law_heap_ : Sig → AH → Out := (dSeq (dSetC 3 (dLc (dRng1 (dCons (dBin addO (dVar 1) (dC (.int 1))) dNil)) (.nm 4) dYes (dC (.int 0)) [4]))
    (dSeq (dFor (dRng1 (dCons (dBin addO (dC (.int 1)) (dCall d_law_take (dCons (dVar 0) (dCons (dVar 2) dNil)))) dNil)) (.nm 5) L0_law_heap)
    (dRet (dApp tupleO (dCons (dVar 3) dNil)))))
noncomputable def d_law_heap : List DV → AH → Res DV := dDef 6 3 false b_law_heap_
abbrev s_law_letters : Stmt := topS 29
theorem sc_law_letters : FnScope ["x", "found", "a", "k"] ["x"] (defScope s_law_letters) := ⟨rfl, rfl, rfl, by decide +kernel, rfl, by decide +kernel, by decide +kernel⟩
noncomputable def L0_law_letters : Sig → AH → Out := (dSet 1 (dBin addO (dVar 1) (dVal (dLc (dRng1 (dCons (dBin ixO (dVar 0) (dVar 2)) dNil)) (.nm 3) dYes (dVar 2) [3]))))
noncomputable def b_law_letters_ : Sig → AH → Out := (dSeq (dSet 1 (dVal (dLst dNil)))
    (dSeq (dFor (dRng1 (dCons (dApp lenO (dCons (dVar 0) dNil)) dNil)) (.nm 2) L0_law_letters)
    (dRet (dVar 1))))
noncomputable def d_law_letters : List DV → AH → Res DV := dDef 4 1 false b_law_letters_
abbrev s_law_heap_word : Stmt := topS 31
theorem sc_law_heap_word : FnScope ["heaps", "found", "x", "a"] ["heaps"] (defScope s_law_heap_word) := ⟨rfl, rfl, rfl, by decide +kernel, rfl, by decide +kernel, by decide +kernel⟩
noncomputable def L0_law_heap_word : Sig → AH → Out := (dSet 1 (dBin addO (dVar 1) (dUn revO (dVal (dLc (dSeqI (dCall d_law_letters (dCons (dVar 2) dNil))) (.nm 3) dYes (dBin addO (dVar 3) (dC (.int 1))) [3])))))
noncomputable def b_law_heap_word_ : Sig → AH → Out := (dSeq (dSet 1 (dVal (dLst dNil)))
    (dSeq (dFor (dSeqI (dVar 0)) (.nm 2) L0_law_heap_word)
    (dRet (dApp tupleO (dCons (dVar 1) dNil)))))
noncomputable def d_law_heap_word : List DV → AH → Res DV := dDef 4 1 false b_law_heap_word_
abbrev s_law_refuses : Stmt := topS 32
theorem sc_law_refuses : FnScope ["p", "a", "b", "n"] ["p", "a", "b", "n"] (defScope s_law_refuses) := ⟨rfl, rfl, rfl, by decide +kernel, rfl, by decide +kernel, by decide +kernel⟩
noncomputable def b_law_refuses_ : Sig → AH → Out := (dSeq (dTry sub_Malformed (dDrop (dCall (d_law_plain 8) (dCons (dCall d_pair_of_heaps (dCons (dVar 0) (dCons (dVar 1) (dCons (dVar 2) (dCons (dVar 3) dNil))))) dNil))) (dRet (dC (.bl true))))
    (dRet (dC (.bl false))))
noncomputable def d_law_refuses : List DV → AH → Res DV := dDef 4 4 false b_law_refuses_
abbrev s_law_all_heaps : Stmt := topS 33
theorem sc_law_all_heaps : FnScope ["size", "n", "found", "k", "longer", "head", "c"] ["size", "n"] (defScope s_law_all_heaps) := ⟨rfl, rfl, rfl, by decide +kernel, rfl, by decide +kernel, by decide +kernel⟩
noncomputable def L0_law_all_heaps : Sig → AH → Out := (dSet 4 (dBin addO (dVar 4) (dVal (dLc (dRng1 (dCons (dBin addO (dBin subO (dVar 0) (dApp sumO (dCons (dVar 5) dNil))) (dC (.int 1))) dNil)) (.nm 6) dYes (dBin addO (dVar 5) (dTup (dCons (dVar 6) dNil))) [6]))))
noncomputable def L1_law_all_heaps : Sig → AH → Out := (dSeq (dSet 4 (dVal (dLst dNil)))
    (dSeq (dFor (dSeqI (dVar 2)) (.nm 5) L0_law_all_heaps)
    (dSet 2 (dVar 4))))
noncomputable def b_law_all_heaps_ : Sig → AH → Out := (dSeq (dSet 2 (dVal (dLst (dCons (dTup dNil) dNil))))
    (dSeq (dFor (dRng1 (dCons (dVar 1) dNil)) (.nm 3) L1_law_all_heaps)
    (dRet (dVal (dLc (dSeqI (dVar 2)) (.nm 5) dYes (dBin addO (dVar 5) (dTup (dCons (dBin subO (dVar 0) (dApp sumO (dCons (dVar 5) dNil))) dNil))) [5])))))
noncomputable def d_law_all_heaps : List DV → AH → Res DV := dDef 7 2 false b_law_all_heaps_
abbrev s_law_heap_of : Stmt := topS 30
theorem sc_law_heap_of : FnScope ["letters", "n", "a"] ["letters", "n"] (defScope s_law_heap_of) := ⟨rfl, rfl, rfl, by decide +kernel, rfl, by decide +kernel, by decide +kernel⟩
noncomputable def b_law_heap_of_ : Sig → AH → Out := (dRet (dApp tupleO (dCons (dVal (dLc (dRng1 (dCons (dBin addO (dVar 1) (dC (.int 1))) dNil)) (.nm 2) dYes (dCnt (dVar 0) (dCons (dVar 2) dNil)) [2])) dNil)))
noncomputable def d_law_heap_of : List DV → AH → Res DV := dDef 3 2 false b_law_heap_of_
abbrev s_law_content : Stmt := topS 34
theorem sc_law_content : FnScope ["p", "n", "items", "row", "x"] ["p", "n"] (defScope s_law_content) := ⟨rfl, rfl, rfl, by decide +kernel, rfl, by decide +kernel, by decide +kernel⟩
noncomputable def L0_law_content : Sig → AH → Out := (dSet 2 (dBin addO (dVar 2) (dVal (dLc (dSeqI (dVar 3)) (.nm 4) dYes (dBin subO (dVar 4) (dC (.int 1))) [4]))))
noncomputable def b_law_content_ : Sig → AH → Out := (dSeq (dSet 2 (dVal (dLst dNil)))
    (dSeq (dFor (dSeqI (dVar 0)) (.nm 3) L0_law_content)
    (dRet (dCall d_law_heap_of (dCons (dVar 2) (dCons (dVar 1) dNil))))))
noncomputable def d_law_content : List DV → AH → Res DV := dDef 5 2 false b_law_content_
abbrev s_law_walked : Stmt := topS 35
theorem sc_law_walked : FnScope ["p", "a", "b", "n", "row", "content", "found", "x", "y", "k"] ["p", "a", "b", "n"] (defScope s_law_walked) := ⟨rfl, rfl, rfl, by decide +kernel, rfl, by decide +kernel, by decide +kernel⟩
noncomputable def L0_law_walked : Sig → AH → Out := (dSeq (dSet 8 (dApp tupleO (dCons (dVal (dLc (dRng1 (dCons (dBin addO (dVar 3) (dC (.int 1))) dNil)) (.nm 9) dYes (dBin subO (dBin ixO (dVar 5) (dVar 9)) (dBin ixO (dVar 7) (dVar 9))) [9])) dNil)))
    (dIf (dAnd (blOf (dBin geO (dApp minO2 (dCons (dVar 8) dNil)) (dC (.int 0)))) (blOf (dBin eqO (dBin ixO (dCall d_law_pair (dCons (dCall d_law_heap_word (dCons (dTup (dCons (dVar 7) (dCons (dVar 8) dNil))) dNil)) dNil)) (dC (.int 0))) (dVar 0)))) (dDrop (dMeth appendM (dVar 6) (dCons (dTup (dCons (dVar 7) (dCons (dVar 8) dNil))) dNil))) dPass))
noncomputable def b_law_walked_ : Sig → AH → Out := (dSeq (dIf (blOf (dBin neO (dApp sumO (dCons (dVal (dLc (dSeqI (dVar 0)) (.nm 4) dYes (dApp lenO (dCons (dVar 4) dNil)) [4])) dNil)) (dBin addO (dVar 1) (dVar 2)))) (dRet (dVal (dLst dNil))) dPass)
    (dSeq (dSet 5 (dCall d_law_content (dCons (dVar 0) (dCons (dVar 3) dNil))))
    (dSeq (dSet 6 (dCell (dLst dNil)))
    (dSeq (dFor (dSeqI (dCall d_law_all_heaps (dCons (dVar 1) (dCons (dVar 3) dNil)))) (.nm 7) L0_law_walked)
    (dRet (dVar 6))))))
noncomputable def d_law_walked : List DV → AH → Res DV := dDef 10 4 false b_law_walked_
abbrev s_law : Stmt := topS 36
theorem sc_law : FnScope ["script", "state", "n", "most", "one", "two", "p", "size", "row", "turn", "a", "b", "told", "found", "q", "value"] ["script"] (defScope s_law) := ⟨rfl, rfl, rfl, by decide +kernel, rfl, by decide +kernel, by decide +kernel⟩
noncomputable def L0_law : Sig → AH → Out := (dSeq (dSet 10 (dBin addO (dC (.int 1)) (dCall d_law_take (dCons (dVar 1) (dCons (dC (.int 8)) dNil)))))
    (dSeq (dSet 11 (dBin subO (dVar 7) (dVar 10)))
    (dSeq (dIf (blOf (dBin eqO (dCall d_law_take (dCons (dVar 1) (dCons (dC (.int 6)) dNil))) (dC (.int 0)))) (dSet 11 (dBin addO (dC (.int 1)) (dCall d_law_take (dCons (dVar 1) (dCons (dC (.int 8)) dNil))))) dPass)
    (dIf (blOf (dChain leO leO (dC (.int 1)) (dVar 11) (dC (.int 8)))) (dSeq (dSet 12 (dCall (d_law_plain 8) (dCons (dCall d_pair_of_heaps (dCons (dVar 6) (dCons (dVar 10) (dCons (dVar 11) (dCons (dVar 2) dNil))))) dNil)))
    (dSeq (dSet 13 (dCall d_law_walked (dCons (dVar 6) (dCons (dVar 10) (dCons (dVar 11) (dCons (dVar 2) dNil))))))
    (dIf (dOr (blOf (dBin gtO (dApp lenO (dCons (dVar 13) dNil)) (dC (.int 1)))) (blOf (dBin neO (dVar 12) (dIte (blOf (dBin eqO (dApp lenO (dCons (dVar 13) dNil)) (dC (.int 1)))) (dBin ixO (dVar 13) (dC (.int 0))) (dC .non))))) (dRet (dC (.bl false))) dPass))) dPass))))
noncomputable def L1_law : Sig → AH → Out := (dIf (dNot (dTru (dCall d_law_refuses (dCons (dVar 15) (dCons (dVar 10) (dCons (dVar 11) (dCons (dVar 2) dNil))))))) (dRet (dC (.bl false))) dPass)
noncomputable def L2_law : Sig → AH → Out := (dIf (dOr (dNot (dTru (dCall d_law_refuses (dCons (dVar 14) (dCons (dVar 15) (dCons (dVar 11) (dCons (dVar 2) dNil))))))) (dNot (dTru (dCall d_law_refuses (dCons (dVar 14) (dCons (dVar 10) (dCons (dVar 15) (dCons (dVar 2) dNil)))))))) (dRet (dC (.bl false))) dPass)
noncomputable def L3_law : Sig → AH → Out := (dIf (dNot (dTru (dCall d_law_refuses (dCons (dTup (dCons (dTup (dCons (dC (.int 1)) dNil)) dNil)) (dCons (dC (.int 1)) (dCons (dC (.int 1)) (dCons (dVar 15) dNil))))))) (dRet (dC (.bl false))) dPass)
noncomputable def b_law_ : Sig → AH → Out := (dSeq (dSet 1 (dCall d_law_state (dCons (dVar 0) dNil)))
    (dSeq (dSet 2 (dBin addO (dC (.int 1)) (dCall d_law_take (dCons (dVar 1) (dCons (dC (.int 3)) dNil)))))
    (dSeq (dSet 3 (dBin ixO (dVal (dLst (dCons (dC (.int 8)) (dCons (dC (.int 6)) (dCons (dC (.int 5)) dNil))))) (dBin subO (dVar 2) (dC (.int 1)))))
    (dSeq (dPar 4 5 (dCons (dCall d_law_heap (dCons (dVar 1) (dCons (dVar 2) (dCons (dApp minO2 (dCons (dVar 3) (dCons (dC (.int 6)) dNil))) dNil)))) (dCons (dCall d_law_heap (dCons (dVar 1) (dCons (dVar 2) (dCons (dApp minO2 (dCons (dVar 3) (dCons (dC (.int 6)) dNil))) dNil)))) dNil)))
    (dSeq (dSet 6 (dBin ixO (dCall d_law_pair (dCons (dCall d_law_heap_word (dCons (dTup (dCons (dVar 4) (dCons (dVar 5) dNil))) dNil)) dNil)) (dC (.int 0))))
    (dSeq (dIf (blOf (dBin eqO (dCall d_law_take (dCons (dVar 1) (dCons (dC (.int 4)) dNil))) (dC (.int 0)))) (dSet 6 (dBin ixO (dCall d_law_pair (dCons (dCall d_law_word (dCons (dVar 1) (dCons (dC (.int 9)) (dCons (dBin addO (dVar 2) (dC (.int 1))) dNil)))) dNil)) (dC (.int 0)))) dPass)
    (dSeq (dSet 7 (dApp sumO (dCons (dVal (dLc (dSeqI (dVar 6)) (.nm 8) dYes (dApp lenO (dCons (dVar 8) dNil)) [8])) dNil)))
    (dSeq (dFor (dRng1 (dCons (dC (.int 4)) dNil)) (.nm 9) L0_law)
    (dSeq (dPar 10 11 (dCons (dApp sumO (dCons (dVar 4) dNil)) (dCons (dApp sumO (dCons (dVar 5) dNil)) dNil)))
    (dSeq (dSet 14 (dBin ixO (dCall d_law_pair (dCons (dCall d_law_heap_word (dCons (dTup (dCons (dVar 4) (dCons (dVar 5) dNil))) dNil)) dNil)) (dC (.int 0))))
    (dSeq (dIf (blOf (dBin neO (dCall (d_law_plain 8) (dCons (dCall d_pair_of_heaps (dCons (dVar 14) (dCons (dVar 10) (dCons (dVar 11) (dCons (dVar 2) dNil))))) dNil)) (dTup (dCons (dVar 4) (dCons (dVar 5) dNil))))) (dRet (dC (.bl false))) dPass)
    (dSeq (dFor (dSeqI (dVal (dLst (dCons (dC .non) (dCons (dC (.int 0)) (dCons (dC (.str "1")) (dCons (dBin addO (dVal (dAppF listF (dCons (dVar 14) dNil))) (dVal (dLst (dCons (dTup (dCons (dC (.int 1)) dNil)) dNil)))) (dCons (dBin addO (dVar 14) (dTup (dCons (dBin mulO1 (dTup (dCons (dBin addO (dVar 2) (dC (.int 2))) dNil)) (dC (.int 13))) dNil))) (dCons (dTup (dCons (dTup (dCons (dBin addO (dVar 2) (dC (.int 2))) dNil)) dNil)) (dCons (dTup (dCons (dTup (dCons (dC (.int 0)) dNil)) dNil)) (dCons (dTup (dCons (dTup (dCons (dC (.bl true)) dNil)) dNil)) (dCons (dTup (dCons (dTup (dCons (dC (.int 2)) (dCons (dC (.int 1)) dNil))) dNil)) (dCons (dTup (dCons (dTup (dCons (dC (.int 1)) dNil)) (dCons (dTup (dCons (dC (.int 1)) dNil)) dNil))) (dCons (dTup (dCons (dBin mulO1 (dTup (dCons (dC (.int 1)) dNil)) (dC (.int 13))) dNil)) dNil)))))))))))))) (.nm 15) L1_law)
    (dSeq (dFor (dSeqI (dVal (dLst (dCons (dC (.int 0)) (dCons (dC (.int 9)) (dCons (dUn negO (dC (.int 1))) (dCons (dC (.bl true)) (dCons (dC .non) (dCons (dC (.str "1")) (dCons (dTup (dCons (dC (.int 1)) dNil)) dNil)))))))))) (.nm 15) L2_law)
    (dSeq (dFor (dSeqI (dVal (dLst (dCons (dC (.int 0)) (dCons (dC (.int 4)) (dCons (dUn negO (dC (.int 1))) (dCons (dC (.bl true)) (dCons (dC .non) (dCons (dC (.str "1")) dNil))))))))) (.nm 15) L3_law)
    (dRet (dBin isO (dCall (d_law_plain 8) (dCons (dCall d_pair_of_heaps (dCons (dTup dNil) (dCons (dC (.int 1)) (dCons (dC (.int 1)) (dCons (dVar 2) dNil))))) dNil)) (dC .non)))))))))))))))))
noncomputable def d_law : List DV → AH → Res DV := dDef 16 1 false b_law_
structure Txt (P : Program) (K : PySem.W.Frag) (mg : Str → Option Value) where
  a_is_integer : Addr
  d_is_integer : FuncData
  F_is_integer : Fun K "is_integer" "is_integer" s_is_integer a_is_integer d_is_integer
  b_is_integer : Binds K d_is_integer ["value"] []
  m_is_integer : mg "is_integer" = some (.ref a_is_integer)
  a_counted : Addr
  d_counted : FuncData
  F_counted : Fun K "counted" "counted" s_counted a_counted d_counted
  b_counted : Binds K d_counted ["letters", "n"] []
  m_counted : mg "counted" = some (.ref a_counted)
  a_has_rows : Addr
  d_has_rows : FuncData
  F_has_rows : Fun K "has_rows" "has_rows" s_has_rows a_has_rows d_has_rows
  b_has_rows : Binds K d_has_rows ["value"] []
  m_has_rows : mg "has_rows" = some (.ref a_has_rows)
  a_ascends : Addr
  d_ascends : FuncData
  F_ascends : Fun K "ascends" "ascends" s_ascends a_ascends d_ascends
  b_ascends : Binds K d_ascends ["rows"] []
  m_ascends : mg "ascends" = some (.ref a_ascends)
  a_is_tableau : Addr
  d_is_tableau : FuncData
  F_is_tableau : Fun K "is_tableau" "is_tableau" s_is_tableau a_is_tableau d_is_tableau
  b_is_tableau : Binds K d_is_tableau ["value"] []
  m_is_tableau : mg "is_tableau" = some (.ref a_is_tableau)
  a_shape_of : Addr
  d_shape_of : FuncData
  F_shape_of : Fun K "shape_of" "shape_of" s_shape_of a_shape_of d_shape_of
  b_shape_of : Binds K d_shape_of ["rows"] []
  m_shape_of : mg "shape_of" = some (.ref a_shape_of)
  a_without_box : Addr
  d_without_box : FuncData
  F_without_box : Fun K "without_box" "without_box" s_without_box a_without_box d_without_box
  b_without_box : Binds K d_without_box ["rows", "i"] []
  m_without_box : mg "without_box" = some (.ref a_without_box)
  a_taken : Addr
  d_taken : FuncData
  F_taken : Fun K "taken" "taken" s_taken a_taken d_taken
  b_taken : Binds K d_taken ["rows", "i"] []
  m_taken : mg "taken" = some (.ref a_taken)
  a_pair_of_heaps : Addr
  d_pair_of_heaps : FuncData
  F_pair_of_heaps : Fun K "pair_of_heaps" "pair_of_heaps" s_pair_of_heaps a_pair_of_heaps d_pair_of_heaps
  b_pair_of_heaps : Binds K d_pair_of_heaps ["p", "a", "b", "n"] []
  m_pair_of_heaps : mg "pair_of_heaps" = some (.ref a_pair_of_heaps)
  a_law_state : Addr
  d_law_state : FuncData
  F_law_state : Fun K "_law_state" "_law_state" s_law_state a_law_state d_law_state
  b_law_state : Binds K d_law_state ["script"] []
  m_law_state : mg "_law_state" = some (.ref a_law_state)
  a_law_take : Addr
  d_law_take : FuncData
  F_law_take : Fun K "_law_take" "_law_take" s_law_take a_law_take d_law_take
  b_law_take : Binds K d_law_take ["state", "m"] []
  m_law_take : mg "_law_take" = some (.ref a_law_take)
  a_law_plain : Addr
  d_law_plain : FuncData
  F_law_plain : Fun K "_law_plain" "_law_plain" s_law_plain a_law_plain d_law_plain
  b_law_plain : Binds K d_law_plain ["value"] []
  m_law_plain : mg "_law_plain" = some (.ref a_law_plain)
  a_law_word : Addr
  d_law_word : FuncData
  F_law_word : Fun K "_law_word" "_law_word" s_law_word a_law_word d_law_word
  b_law_word : Binds K d_law_word ["state", "most", "letters"] []
  m_law_word : mg "_law_word" = some (.ref a_law_word)
  a_law_frozen : Addr
  d_law_frozen : FuncData
  F_law_frozen : Fun K "_law_frozen" "_law_frozen" s_law_frozen a_law_frozen d_law_frozen
  b_law_frozen : Binds K d_law_frozen ["rows"] []
  m_law_frozen : mg "_law_frozen" = some (.ref a_law_frozen)
  a_law_bump : Addr
  d_law_bump : FuncData
  F_law_bump : Fun K "_law_bump" "_law_bump" s_law_bump a_law_bump d_law_bump
  b_law_bump : Binds K d_law_bump ["rows", "x"] []
  m_law_bump : mg "_law_bump" = some (.ref a_law_bump)
  a_law_pair : Addr
  d_law_pair : FuncData
  F_law_pair : Fun K "_law_pair" "_law_pair" s_law_pair a_law_pair d_law_pair
  b_law_pair : Binds K d_law_pair ["word"] []
  m_law_pair : mg "_law_pair" = some (.ref a_law_pair)
  a_law_heap : Addr
  d_law_heap : FuncData
  F_law_heap : Fun K "_law_heap" "_law_heap" s_law_heap a_law_heap d_law_heap
  b_law_heap : Binds K d_law_heap ["state", "n", "most"] []
  m_law_heap : mg "_law_heap" = some (.ref a_law_heap)
  a_law_letters : Addr
  d_law_letters : FuncData
  F_law_letters : Fun K "_law_letters" "_law_letters" s_law_letters a_law_letters d_law_letters
  b_law_letters : Binds K d_law_letters ["x"] []
  m_law_letters : mg "_law_letters" = some (.ref a_law_letters)
  a_law_heap_word : Addr
  d_law_heap_word : FuncData
  F_law_heap_word : Fun K "_law_heap_word" "_law_heap_word" s_law_heap_word a_law_heap_word d_law_heap_word
  b_law_heap_word : Binds K d_law_heap_word ["heaps"] []
  m_law_heap_word : mg "_law_heap_word" = some (.ref a_law_heap_word)
  a_law_refuses : Addr
  d_law_refuses : FuncData
  F_law_refuses : Fun K "_law_refuses" "_law_refuses" s_law_refuses a_law_refuses d_law_refuses
  b_law_refuses : Binds K d_law_refuses ["p", "a", "b", "n"] []
  m_law_refuses : mg "_law_refuses" = some (.ref a_law_refuses)
  a_law_all_heaps : Addr
  d_law_all_heaps : FuncData
  F_law_all_heaps : Fun K "_law_all_heaps" "_law_all_heaps" s_law_all_heaps a_law_all_heaps d_law_all_heaps
  b_law_all_heaps : Binds K d_law_all_heaps ["size", "n"] []
  m_law_all_heaps : mg "_law_all_heaps" = some (.ref a_law_all_heaps)
  a_law_heap_of : Addr
  d_law_heap_of : FuncData
  F_law_heap_of : Fun K "_law_heap_of" "_law_heap_of" s_law_heap_of a_law_heap_of d_law_heap_of
  b_law_heap_of : Binds K d_law_heap_of ["letters", "n"] []
  m_law_heap_of : mg "_law_heap_of" = some (.ref a_law_heap_of)
  a_law_content : Addr
  d_law_content : FuncData
  F_law_content : Fun K "_law_content" "_law_content" s_law_content a_law_content d_law_content
  b_law_content : Binds K d_law_content ["p", "n"] []
  m_law_content : mg "_law_content" = some (.ref a_law_content)
  a_law_walked : Addr
  d_law_walked : FuncData
  F_law_walked : Fun K "_law_walked" "_law_walked" s_law_walked a_law_walked d_law_walked
  b_law_walked : Binds K d_law_walked ["p", "a", "b", "n"] []
  m_law_walked : mg "_law_walked" = some (.ref a_law_walked)
  a_law : Addr
  d_law : FuncData
  F_law : Fun K "law" "law" s_law a_law d_law
  b_law : Binds K d_law ["script"] []
  m_law : mg "law" = some (.ref a_law)
  z_abs : mg "abs" = none
  z_bool : mg "bool" = none
  z_int : mg "int" = none
  z_isinstance : mg "isinstance" = none
  z_len : mg "len" = none
  z_list : mg "list" = none
  z_max : mg "max" = none
  z_min : mg "min" = none
  z_range : mg "range" = none
  z_str : mg "str" = none
  z_sum : mg "sum" = none
  z_tuple : mg "tuple" = none
  t_MOST_COLOUR : Tok
  c_MOST_COLOUR : mg "MOST_COLOUR" = some (.int 3 t_MOST_COLOUR)
  t_MOST_LENGTH : Tok
  c_MOST_LENGTH : mg "MOST_LENGTH" = some (.int 12 t_MOST_LENGTH)
  t_MOST_LETTER : Tok
  c_MOST_LETTER : mg "MOST_LETTER" = some (.int 6 t_MOST_LETTER)
  t_MOST_ROOM : Tok
  c_MOST_ROOM : mg "MOST_ROOM" = some (.int 8 t_MOST_ROOM)
  a_Malformed : Addr
  m_Malformed : mg "Malformed" = some (.ref a_Malformed)
  x_Malformed : PySem.W.excIn K a_Malformed [.type "ValueError", .type "Exception", .type "BaseException", .type "object"] "ValueError.__new__" = true
  k_Malformed : PySem.W.keepIn K (.ref a_Malformed) = true
  xb_Malformed : PySem.W.subIn K (.ref a_Malformed) (.type "BaseException") = some true
  xt_Malformed : PySem.W.typeIn K (.ref a_Malformed) = some (.type "type")
  sub_Malformed : ∀ (n : Str) (b : Bool) (cls : Value), sub_Malformed n = some b → mg n = some cls → PySem.W.exmOne K cls (.ref a_Malformed) = some b
theorem ok_is_integer {P : Program} {w : World} {K : PySem.W.Frag} {mg : Str → Option Value} {base : Heap} (T : Txt P K mg) : FnOk P w K mg base (L2.CX P w) 1 T.a_is_integer T.d_is_integer ["value"] (spD ⟨K, mg⟩ d_is_integer) :=
  def_ok (k := 0) T.F_is_integer sc_is_integer rfl rfl fun cdv A outer s H E hr g =>
    (dss_one (ds_ret (de_and (de_isi (by decide +kernel) (by rfl) T.z_isinstance (by rfl) T.z_int b_int (de_var 0)) (de_one (de_not (de_isi (by decide +kernel) (by rfl) T.z_isinstance (by rfl) T.z_bool b_bool (de_var 0)))))))
theorem ok_counted {P : Program} {w : World} {K : PySem.W.Frag} {mg : Str → Option Value} {base : Heap} (T : Txt P K mg) : FnOk P w K mg base (L2.CX P w) 1 T.a_counted T.d_counted ["letters", "n"] (spD ⟨K, mg⟩ d_counted) :=
  def_ok (k := 0) T.F_counted sc_counted rfl rfl fun cdv A outer s H E hr g =>
    (dss_one (ds_ret (de_callTy ow_tuple (by rfl) T.z_tuple b_tuple (da_cons (de_val (fe_lc g sc_counted.nd (di_rng1 (by rfl) T.z_range (da_cons (de_bin ow_add (de_var 1) de_int) da_nil)) (blkOk_by (own := [("k", 3)]) (by kernel_rfl)) (fun _ _ _ _ _ => (dg_nm sc_counted.nd rfl (by first | exact Or.inl rfl | exact Or.inr rfl))) (fun _ _ _ _ _ => dts_nil) (fun _ _ _ _ _ => (de_callB ow_len (by rfl) T.z_len b_len (da_cons (de_val (fe_lc (Gd.blk g _ _ _ _ _) sc_counted.nd (di_seq (de_var 0)) (blkOk_by (own := [("a", 2)]) (by kernel_rfl)) (fun _ _ _ _ _ => (dg_nm sc_counted.nd rfl (by first | exact Or.inl rfl | exact Or.inr rfl))) (fun _ _ _ _ _ => (dts_one (dt_cmp (ow_eq hr.units) (de_var 2) (de_var 3) (nomark _)))) (fun _ _ _ _ _ => (de_var 2)) (by decide))) da_nil))) (by decide))) da_nil))))
theorem ok_has_rows {P : Program} {w : World} {K : PySem.W.Frag} {mg : Str → Option Value} {base : Heap} (T : Txt P K mg) : FnOk P w K mg base (L2.CX P w) 1 T.a_has_rows T.d_has_rows ["value"] (spD ⟨K, mg⟩ d_has_rows) :=
  def_ok (k := 0) T.F_has_rows sc_has_rows rfl rfl fun cdv A outer s H E hr g =>
    (dss_cons (ds_if (dt_not (dt_tru (de_isi (by decide +kernel) (by rfl) T.z_isinstance (by rfl) T.z_tuple b_tuple (de_var 0)))) (dss_one (ds_ret de_bl)) dss_nil)
    (dss_cons (ds_set (i := 1) sc_has_rows.nd rfl (by first | exact Or.inl rfl | exact Or.inr rfl) (de_gint (by rfl) T.c_MOST_LENGTH))
    (dss_cons (ds_set (i := 2) sc_has_rows.nd rfl (by first | exact Or.inl rfl | exact Or.inr rfl) de_int)
    (dss_cons (ds_for g (di_seq (de_var 0)) (dg_nm sc_has_rows.nd rfl (by first | exact Or.inl rfl | exact Or.inr rfl)) (dss_cons (ds_if (dt_w (dw_or (dt_not (dt_tru (de_isi (by decide +kernel) (by rfl) T.z_isinstance (by rfl) T.z_tuple b_tuple (de_var 3)))) (dw_or (dt_cmp ow_lt (de_callB ow_len (by rfl) T.z_len b_len (da_cons (de_var 3) da_nil)) de_int (nomark _)) (dw_or1 (dt_cmp ow_gt (de_callB ow_len (by rfl) T.z_len b_len (da_cons (de_var 3) da_nil)) (de_var 1) (nomark _)))))) (dss_one (ds_ret de_bl)) dss_nil)
    (dss_cons (ds_set (i := 1) sc_has_rows.nd rfl (by first | exact Or.inl rfl | exact Or.inr rfl) (de_callB ow_len (by rfl) T.z_len b_len (da_cons (de_var 3) da_nil)))
    (dss_one (ds_set (i := 2) sc_has_rows.nd rfl (by first | exact Or.inl rfl | exact Or.inr rfl) (de_bin ow_add (de_var 2) (de_var 1)))))))
    (dss_one (ds_ret (de_cmp ow_le (de_var 2) (de_gint (by rfl) T.c_MOST_LENGTH) (nomark _))))))))
theorem ok_ascends {P : Program} {w : World} {K : PySem.W.Frag} {mg : Str → Option Value} {base : Heap} (T : Txt P K mg) : FnOk P w K mg base (L2.CX P w) 1 T.a_ascends T.d_ascends ["rows"] (spD ⟨K, mg⟩ d_ascends) :=
  def_ok (k := 0) T.F_ascends sc_ascends rfl rfl fun cdv A outer s H E hr g =>
    (dss_cons (ds_for g (di_rng1 (by rfl) T.z_range (da_cons (de_callB ow_len (by rfl) T.z_len b_len (da_cons (de_var 0) da_nil)) da_nil)) (dg_nm sc_ascends.nd rfl (by first | exact Or.inl rfl | exact Or.inr rfl)) (dss_one (ds_for g (di_rng1 (by rfl) T.z_range (da_cons (de_callB ow_len (by rfl) T.z_len b_len (da_cons (de_ix (de_var 0) (de_var 1) (fun _ _ => rfl)) da_nil)) da_nil)) (dg_nm sc_ascends.nd rfl (by first | exact Or.inl rfl | exact Or.inr rfl)) (dss_cons (ds_if (dt_w (dw_and (dt_cmp ow_gt (de_var 2) de_int (nomark _)) (dw_and1 (dt_cmp ow_gt (de_ix (de_ix (de_var 0) (de_var 1) (fun _ _ => rfl)) (de_bin ow_sub (de_var 2) de_int) (fun _ _ => rfl)) (de_ix (de_ix (de_var 0) (de_var 1) (fun _ _ => rfl)) (de_var 2) (fun _ _ => rfl)) (nomark _))))) (dss_one (ds_ret de_bl)) dss_nil)
    (dss_one (ds_if (dt_w (dw_and (dt_cmp ow_gt (de_var 1) de_int (nomark _)) (dw_and1 (dt_cmp ow_ge (de_ix (de_ix (de_var 0) (de_bin ow_sub (de_var 1) de_int) (fun _ _ => rfl)) (de_var 2) (fun _ _ => rfl)) (de_ix (de_ix (de_var 0) (de_var 1) (fun _ _ => rfl)) (de_var 2) (fun _ _ => rfl)) (nomark _))))) (dss_one (ds_ret de_bl)) dss_nil))))))
    (dss_one (ds_ret de_bl)))
theorem ok_is_tableau {P : Program} {w : World} {K : PySem.W.Frag} {mg : Str → Option Value} {base : Heap} (T : Txt P K mg) : FnOk P w K mg base (L2.CX P w) 2 T.a_is_tableau T.d_is_tableau ["value"] (spD ⟨K, mg⟩ d_is_tableau) :=
  def_ok (k := 1) T.F_is_tableau sc_is_tableau rfl rfl fun cdv A outer s H E hr g =>
    (dss_cons (ds_if (dt_not (dt_tru (de_call g ((ok_has_rows T).mono (by decide)) hr (by rfl) T.m_has_rows T.F_has_rows.kp T.b_has_rows (da_cons (de_var 0) da_nil)))) (dss_one (ds_ret de_bl)) dss_nil)
    (dss_cons (ds_for g (di_seq (de_var 0)) (dg_nm sc_is_tableau.nd rfl (by first | exact Or.inl rfl | exact Or.inr rfl)) (dss_one (ds_for g (di_seq (de_var 1)) (dg_nm sc_is_tableau.nd rfl (by first | exact Or.inl rfl | exact Or.inr rfl)) (dss_one (ds_if (dt_w (dw_or (dt_not (dt_tru (de_call g ((ok_is_integer T).mono (by decide)) hr (by rfl) T.m_is_integer T.F_is_integer.kp T.b_is_integer (da_cons (de_var 2) da_nil)))) (dw_or (dt_cmp ow_lt (de_var 2) de_int (nomark _)) (dw_or1 (dt_cmp ow_gt (de_var 2) (de_gint (by rfl) T.c_MOST_LETTER) (nomark _)))))) (dss_one (ds_ret de_bl)) dss_nil)))))
    (dss_one (ds_ret (de_call g ((ok_ascends T).mono (by decide)) hr (by rfl) T.m_ascends T.F_ascends.kp T.b_ascends (da_cons (de_var 0) da_nil))))))
theorem ok_shape_of {P : Program} {w : World} {K : PySem.W.Frag} {mg : Str → Option Value} {base : Heap} (T : Txt P K mg) : FnOk P w K mg base (L2.CX P w) 1 T.a_shape_of T.d_shape_of ["rows"] (spD ⟨K, mg⟩ d_shape_of) :=
  def_ok (k := 0) T.F_shape_of sc_shape_of rfl rfl fun cdv A outer s H E hr g =>
    (dss_one (ds_ret (de_callTy ow_tuple (by rfl) T.z_tuple b_tuple (da_cons (de_val (fe_lc g sc_shape_of.nd (di_seq (de_var 0)) (blkOk_by (own := [("row", 1)]) (by kernel_rfl)) (fun _ _ _ _ _ => (dg_nm sc_shape_of.nd rfl (by first | exact Or.inl rfl | exact Or.inr rfl))) (fun _ _ _ _ _ => dts_nil) (fun _ _ _ _ _ => (de_callB ow_len (by rfl) T.z_len b_len (da_cons (de_var 1) da_nil))) (by decide))) da_nil))))
theorem ok_without_box {P : Program} {w : World} {K : PySem.W.Frag} {mg : Str → Option Value} {base : Heap} (T : Txt P K mg) : FnOk P w K mg base (L2.CX P w) 1 T.a_without_box T.d_without_box ["rows", "i"] (spD ⟨K, mg⟩ d_without_box) :=
  def_ok (k := 0) T.F_without_box sc_without_box rfl rfl fun cdv A outer s H E hr g =>
    (dss_cons (ds_if (dt_cmp (ow_eq hr.units) (de_callB ow_len (by rfl) T.z_len b_len (da_cons (de_ix (de_var 0) (de_var 1) (fun _ _ => rfl)) da_nil)) de_int (nomark _)) (dss_one (ds_ret (de_sl (de_var 0) dp_none (dp_some (de_var 1))))) dss_nil)
    (dss_one (ds_ret (de_bin ow_add (de_bin ow_add (de_sl (de_var 0) dp_none (dp_some (de_var 1))) (de_tup (da_cons (de_sl (de_ix (de_var 0) (de_var 1) (fun _ _ => rfl)) dp_none (dp_some (de_un ow_neg de_int))) da_nil))) (de_sl (de_var 0) (dp_some (de_bin ow_add (de_var 1) de_int)) dp_none)))))
theorem ok_taken {P : Program} {w : World} {K : PySem.W.Frag} {mg : Str → Option Value} {base : Heap} (T : Txt P K mg) : FnOk P w K mg base (L2.CX P w) 2 T.a_taken T.d_taken ["rows", "i"] (spD ⟨K, mg⟩ d_taken) :=
  def_ok (k := 1) T.F_taken sc_taken rfl rfl fun cdv A outer s H E hr g =>
    (dss_cons (ds_set (i := 2) sc_taken.nd rfl (by first | exact Or.inl rfl | exact Or.inr rfl) (de_ix (de_ix (de_var 0) (de_var 1) (fun _ _ => rfl)) (de_un ow_neg de_int) (fun _ _ => rfl)))
    (dss_cons (ds_set (i := 3) sc_taken.nd rfl (by first | exact Or.inl rfl | exact Or.inr rfl) (de_cell (fe_callTy ow_list (by rfl) T.z_list b_list (da_cons (de_call g ((ok_without_box T).mono (by decide)) hr (by rfl) T.m_without_box T.F_without_box.kp T.b_without_box (da_cons (de_var 0) (da_cons (de_var 1) da_nil))) da_nil))))
    (dss_cons (ds_for g (di_rng3 (by rfl) T.z_range (da_cons (de_bin ow_sub (de_var 1) de_int) (da_cons (de_un ow_neg de_int) (da_cons (de_un ow_neg de_int) da_nil)))) (dg_nm sc_taken.nd rfl (by first | exact Or.inl rfl | exact Or.inr rfl)) (dss_cons (ds_set (i := 5) sc_taken.nd rfl (by first | exact Or.inl rfl | exact Or.inr rfl) (de_ix (de_var 3) (de_var 4) (fun _ _ => rfl)))
    (dss_cons (ds_set (i := 6) sc_taken.nd rfl (by first | exact Or.inl rfl | exact Or.inr rfl) (de_callB (ow_max rfl) (by rfl) T.z_max b_max (da_cons (de_val (fe_lc g sc_taken.nd (di_rng1 (by rfl) T.z_range (da_cons (de_callB ow_len (by rfl) T.z_len b_len (da_cons (de_var 5) da_nil)) da_nil)) (blkOk_by (own := [("j", 7)]) (by kernel_rfl)) (fun _ _ _ _ _ => (dg_nm sc_taken.nd rfl (by first | exact Or.inl rfl | exact Or.inr rfl))) (fun _ _ _ _ _ => (dts_one (dt_cmp ow_lt (de_ix (de_var 5) (de_var 7) (fun _ _ => rfl)) (de_var 2) (nomark _)))) (fun _ _ _ _ _ => (de_var 7)) (by decide))) da_nil)))
    (dss_cons (ds_sub (de_bin ow_add (de_bin ow_add (de_sl (de_var 5) dp_none (dp_some (de_var 6))) (de_tup (da_cons (de_var 2) da_nil))) (de_sl (de_var 5) (dp_some (de_bin ow_add (de_var 6) de_int)) dp_none)) (de_var 3) (de_var 4))
    (dss_one (ds_set (i := 2) sc_taken.nd rfl (by first | exact Or.inl rfl | exact Or.inr rfl) (de_ix (de_var 5) (de_var 6) (fun _ _ => rfl))))))))
    (dss_one (ds_ret (de_tup (da_cons (de_callTy ow_tuple (by rfl) T.z_tuple b_tuple (da_cons (de_var 3) da_nil)) (da_cons (de_var 2) da_nil))))))))
theorem ok_pair_of_heaps {P : Program} {w : World} {K : PySem.W.Frag} {mg : Str → Option Value} {base : Heap} (T : Txt P K mg) : FnOk P w K mg base (L2.CX P w) 3 T.a_pair_of_heaps T.d_pair_of_heaps ["p", "a", "b", "n"] (spD ⟨K, mg⟩ d_pair_of_heaps) :=
  def_ok (k := 2) T.F_pair_of_heaps sc_pair_of_heaps rfl rfl fun cdv A outer s H E hr g =>
    (dss_cons (ds_if (dt_w (dw_or (dt_not (dt_tru (de_call g ((ok_is_integer T).mono (by decide)) hr (by rfl) T.m_is_integer T.F_is_integer.kp T.b_is_integer (da_cons (de_var 3) da_nil)))) (dw_or (dt_cmp ow_lt (de_var 3) de_int (nomark _)) (dw_or1 (dt_cmp ow_gt (de_var 3) (de_gint (by rfl) T.c_MOST_COLOUR) (nomark _)))))) (dss_one (ds_raise g (pmk_own PySem.F.excBase_ValueError T.x_Malformed T.m_Malformed T.k_Malformed (raises_own T.xb_Malformed T.xt_Malformed) rfl) T.m_Malformed)) dss_nil)
    (dss_cons (ds_for g (di_seq (de_tup (da_cons (de_var 1) (da_cons (de_var 2) da_nil)))) (dg_nm sc_pair_of_heaps.nd rfl (by first | exact Or.inl rfl | exact Or.inr rfl)) (dss_one (ds_if (dt_w (dw_or (dt_not (dt_tru (de_call g ((ok_is_integer T).mono (by decide)) hr (by rfl) T.m_is_integer T.F_is_integer.kp T.b_is_integer (da_cons (de_var 4) da_nil)))) (dw_or (dt_cmp ow_lt (de_var 4) de_int (nomark _)) (dw_or1 (dt_cmp ow_gt (de_var 4) (de_gint (by rfl) T.c_MOST_ROOM) (nomark _)))))) (dss_one (ds_raise g (pmk_own PySem.F.excBase_ValueError T.x_Malformed T.m_Malformed T.k_Malformed (raises_own T.xb_Malformed T.xt_Malformed) rfl) T.m_Malformed)) dss_nil)))
    (dss_cons (ds_if (dt_w (dw_or (dt_not (dt_tru (de_call g ((ok_is_tableau T).mono (by decide)) hr (by rfl) T.m_is_tableau T.F_is_tableau.kp T.b_is_tableau (da_cons (de_var 0) da_nil)))) (dw_or1 (dt_cmp ow_gt (de_callB (ow_max rfl) (by rfl) T.z_max b_max (da_cons (de_bin ow_add (de_val (fe_lc2 g sc_pair_of_heaps.nd (di_seq (de_var 0)) (blkOk_by (own := [("row", 5), ("item", 6)]) (by kernel_rfl)) (vs1 := [6]) (by decide) (fun _ _ _ _ _ => (dg_nm sc_pair_of_heaps.nd rfl (by first | exact Or.inl rfl | exact Or.inr rfl))) (fun _ _ _ _ _ => dts_nil) (fun _ _ _ _ _ => (di_seq (de_var 5))) (fun _ _ _ _ _ => (dg_nm sc_pair_of_heaps.nd rfl (by first | exact Or.inl rfl | exact Or.inr rfl))) (fun _ _ _ _ _ => dts_nil) (fun _ _ _ _ _ => (de_var 6)) (by decide) (by decide))) (de_val (fe_lst (da_cons de_int da_nil)))) da_nil)) (de_bin ow_add (de_var 3) de_int) (nomark _))))) (dss_one (ds_raise g (pmk_own PySem.F.excBase_ValueError T.x_Malformed T.m_Malformed T.k_Malformed (raises_own T.xb_Malformed T.xt_Malformed) rfl) T.m_Malformed)) dss_nil)
    (dss_cons (ds_set (i := 7) sc_pair_of_heaps.nd rfl (by first | exact Or.inl rfl | exact Or.inr rfl) (de_bin ow_add (de_call g ((ok_shape_of T).mono (by decide)) hr (by rfl) T.m_shape_of T.F_shape_of.kp T.b_shape_of (da_cons (de_var 0) da_nil)) (de_tup (da_cons de_int (da_cons de_int da_nil)))))
    (dss_cons (ds_if (dt_w (dw_or (dt_cmp ow_gt (de_callB ow_len (by rfl) T.z_len b_len (da_cons (de_var 0) da_nil)) de_int (nomark _)) (dw_or (dt_cmp (ow_ne hr.units) (de_callB (ow_sum rfl) (by rfl) T.z_sum b_sum (da_cons (de_var 7) da_nil)) (de_bin ow_add (de_var 1) (de_var 2)) (nomark _)) (dw_or (dt_cmp ow_gt (de_ix (de_var 7) de_int (fun _ _ => rfl)) (de_var 1) (nomark _)) (dw_or1 (dt_cmp ow_gt (de_ix (de_var 7) de_int (fun _ _ => rfl)) (de_var 2) (nomark _))))))) (dss_one (ds_ret de_non)) dss_nil)
    (dss_cons (ds_set (i := 8) sc_pair_of_heaps.nd rfl (by first | exact Or.inl rfl | exact Or.inr rfl) (de_var 0))
    (dss_cons (ds_set (i := 9) sc_pair_of_heaps.nd rfl (by first | exact Or.inl rfl | exact Or.inr rfl) (de_cell (fe_lst da_nil)))
    (dss_cons (ds_for g (di_seq (de_tup (da_cons (de_tup (da_cons de_int (da_cons (de_bin ow_sub (de_ix (de_var 7) de_int (fun _ _ => rfl)) (de_var 2)) da_nil))) (da_cons (de_tup (da_cons de_int (da_cons (de_ix (de_var 7) de_int (fun _ _ => rfl)) da_nil))) da_nil)))) (dg_tp rfl (dgs_cons (dg_nm sc_pair_of_heaps.nd rfl (by first | exact Or.inl rfl | exact Or.inr rfl)) (dgs_cons (dg_nm sc_pair_of_heaps.nd rfl (by first | exact Or.inl rfl | exact Or.inr rfl)) dgs_nil))) (dss_one (ds_for g (di_rng1 (by rfl) T.z_range (da_cons (de_var 11) da_nil)) (dg_nm sc_pair_of_heaps.nd rfl (by first | exact Or.inl rfl | exact Or.inr rfl)) (dss_cons (ds_asg (de_call g ((ok_taken T).mono (by decide)) hr (by rfl) T.m_taken T.F_taken.kp T.b_taken (da_cons (de_var 8) (da_cons (de_var 10) da_nil))) (dg_tp rfl (dgs_cons (dg_nm sc_pair_of_heaps.nd rfl (by first | exact Or.inl rfl | exact Or.inr rfl)) (dgs_cons (dg_nm sc_pair_of_heaps.nd rfl (by first | exact Or.inl rfl | exact Or.inr rfl)) dgs_nil))))
    (dss_one (ds_expr (de_meth PySem.F.slot_list_append PySem.F.type_list_append ow_append (de_var 9) (da_cons (de_bin ow_sub (de_var 13) de_int) da_nil))))))))
    (dss_one (ds_ret (de_tup (da_cons (de_call g ((ok_counted T).mono (by decide)) hr (by rfl) T.m_counted T.F_counted.kp T.b_counted (da_cons (de_var 9) (da_cons (de_var 3) da_nil))) (da_cons (de_call g ((ok_counted T).mono (by decide)) hr (by rfl) T.m_counted T.F_counted.kp T.b_counted (da_cons (de_val (fe_lc g sc_pair_of_heaps.nd (di_seq (de_ix (de_var 8) de_int (fun _ _ => rfl))) (blkOk_by (own := [("item", 6)]) (by kernel_rfl)) (fun _ _ _ _ _ => (dg_nm sc_pair_of_heaps.nd rfl (by first | exact Or.inl rfl | exact Or.inr rfl))) (fun _ _ _ _ _ => dts_nil) (fun _ _ _ _ _ => (de_bin ow_sub (de_var 6) de_int)) (by decide))) (da_cons (de_var 3) da_nil))) da_nil)))))))))))))
theorem ok_law_state {P : Program} {w : World} {K : PySem.W.Frag} {mg : Str → Option Value} {base : Heap} (T : Txt P K mg) : FnOk P w K mg base (L2.CX P w) 1 T.a_law_state T.d_law_state ["script"] (spD ⟨K, mg⟩ d_law_state) :=
  def_ok (k := 0) T.F_law_state sc_law_state rfl rfl fun cdv A outer s H E hr g =>
    (dss_cons (ds_set (i := 1) sc_law_state.nd rfl (by first | exact Or.inl rfl | exact Or.inr rfl) de_int)
    (dss_cons (ds_set (i := 2) sc_law_state.nd rfl (by first | exact Or.inl rfl | exact Or.inr rfl) de_int)
    (dss_cons (ds_for g (di_seq (de_sl (de_var 0) dp_none (dp_some de_int))) (dg_nm sc_law_state.nd rfl (by first | exact Or.inl rfl | exact Or.inr rfl)) (dss_cons (ds_set (i := 1) sc_law_state.nd rfl (by first | exact Or.inl rfl | exact Or.inr rfl) (de_bin ow_add (de_bin ow_mul1 (de_var 1) de_int) (de_callB ow_abs (by rfl) T.z_abs b_abs (da_cons (de_var 3) da_nil))))
    (dss_one (ds_set (i := 2) sc_law_state.nd rfl (by first | exact Or.inl rfl | exact Or.inr rfl) (de_bin ow_mod (de_callTy ow_int (by rfl) T.z_int b_int (da_cons (de_bin ow_add (de_bin ow_mul1 (de_var 2) de_int) (de_var 3)) da_nil)) de_int)))))
    (dss_one (ds_ret (de_cell (fe_lst (da_cons (de_var 1) (da_cons (de_var 2) da_nil)))))))))
theorem ok_law_take {P : Program} {w : World} {K : PySem.W.Frag} {mg : Str → Option Value} {base : Heap} (T : Txt P K mg) : FnOk P w K mg base (L2.CX P w) 1 T.a_law_take T.d_law_take ["state", "m"] (spD ⟨K, mg⟩ d_law_take) :=
  def_ok (k := 0) T.F_law_take sc_law_take rfl rfl fun cdv A outer s H E hr g =>
    (dss_cons (ds_if (dt_cmp ow_gt (de_ix (de_var 0) de_int (fun _ _ => rfl)) de_int (nomark _)) (dss_cons (ds_set (i := 2) sc_law_take.nd rfl (by first | exact Or.inl rfl | exact Or.inr rfl) (de_bin ow_mod (de_callTy ow_int (by rfl) T.z_int b_int (da_cons (de_ix (de_var 0) de_int (fun _ _ => rfl)) da_nil)) (de_var 1)))
    (dss_cons (ds_sub (de_bin ow_div (de_ix (de_var 0) de_int (fun _ _ => rfl)) (de_var 1)) (de_var 0) de_int)
    (dss_one (ds_ret (de_var 2))))) dss_nil)
    (dss_cons (ds_sub (de_bin ow_mod (de_callTy ow_int (by rfl) T.z_int b_int (da_cons (de_bin ow_add (de_bin ow_mul1 (de_ix (de_var 0) de_int (fun _ _ => rfl)) de_int) de_int) da_nil)) de_int) (de_var 0) de_int)
    (dss_one (ds_ret (de_bin ow_mod (de_callTy ow_int (by rfl) T.z_int b_int (da_cons (de_bin ow_div (de_ix (de_var 0) de_int (fun _ _ => rfl)) de_int) da_nil)) (de_var 1))))))
theorem ok_law_plain {P : Program} {w : World} {K : PySem.W.Frag} {mg : Str → Option Value} {base : Heap} (T : Txt P K mg) : ∀ n : Nat, FnOk P w K mg base (L2.CX P w) (n + 1) T.a_law_plain T.d_law_plain ["value"] (spD ⟨K, mg⟩ (d_law_plain n))
  | 0 => fn_bad
  | n + 1 => by
    have ih : FnOk P w K mg base (L2.CX P w) (n + 1) T.a_law_plain T.d_law_plain ["value"] (spD ⟨K, mg⟩ (d_law_plain n)) := ok_law_plain T n
    exact def_ok (k := n + 1) T.F_law_plain sc_law_plain rfl rfl fun cdv A outer s H E hr g =>
      (dss_cons (ds_if (dt_tru (de_isi (by decide +kernel) (by rfl) T.z_isinstance (by rfl) T.z_tuple b_tuple (de_var 0))) (dss_one (ds_ret (de_callTy ow_tuple (by rfl) T.z_tuple b_tuple (da_cons (de_val (fe_lc g sc_law_plain.nd (di_seq (de_var 0)) (blkOk_by (own := [("item", 1)]) (by kernel_rfl)) (fun _ _ _ _ _ => (dg_nm sc_law_plain.nd rfl (by first | exact Or.inl rfl | exact Or.inr rfl))) (fun _ _ _ _ _ => dts_nil) (fun _ _ _ _ _ => (de_call (Gd.blk g _ _ _ _ _) (ih.mono (by omega)) hr (by rfl) T.m_law_plain T.F_law_plain.kp T.b_law_plain (da_cons (de_var 1) da_nil))) (by decide))) da_nil)))) dss_nil)
    (dss_cons (ds_if (dt_w (dw_or (dt_cmp ow_is (de_var 0) de_non (nomark _)) (dw_or (dt_tru (de_isi (by decide +kernel) (by rfl) T.z_isinstance (by rfl) T.z_str b_str (de_var 0))) (dw_or1 (dt_w (dw_and (dt_tru (de_isi (by decide +kernel) (by rfl) T.z_isinstance (by rfl) T.z_int b_int (de_var 0))) (dw_and1 (dt_not (dt_tru (de_isi (by decide +kernel) (by rfl) T.z_isinstance (by rfl) T.z_bool b_bool (de_var 0))))))))))) (dss_one (ds_ret (de_var 0))) dss_nil)
    (dss_one (ds_ret de_str))))
theorem ok_law_word {P : Program} {w : World} {K : PySem.W.Frag} {mg : Str → Option Value} {base : Heap} (T : Txt P K mg) : FnOk P w K mg base (L2.CX P w) 2 T.a_law_word T.d_law_word ["state", "most", "letters"] (spD ⟨K, mg⟩ d_law_word) :=
  def_ok (k := 1) T.F_law_word sc_law_word rfl rfl fun cdv A outer s H E hr g =>
    (dss_one (ds_ret (de_callTy ow_tuple (by rfl) T.z_tuple b_tuple (da_cons (de_val (fe_lc g sc_law_word.nd (di_rng1 (by rfl) T.z_range (da_cons (de_call g ((ok_law_take T).mono (by decide)) hr (by rfl) T.m_law_take T.F_law_take.kp T.b_law_take (da_cons (de_var 0) (da_cons (de_bin ow_add (de_var 1) de_int) da_nil))) da_nil)) (blkOk_by (own := [("k", 3)]) (by kernel_rfl)) (fun _ _ _ _ _ => (dg_nm sc_law_word.nd rfl (by first | exact Or.inl rfl | exact Or.inr rfl))) (fun _ _ _ _ _ => dts_nil) (fun _ _ _ _ _ => (de_bin ow_add de_int (de_call (Gd.blk g _ _ _ _ _) ((ok_law_take T).mono (by decide)) hr (by rfl) T.m_law_take T.F_law_take.kp T.b_law_take (da_cons (de_var 0) (da_cons (de_var 2) da_nil))))) (by decide))) da_nil))))
theorem ok_law_frozen {P : Program} {w : World} {K : PySem.W.Frag} {mg : Str → Option Value} {base : Heap} (T : Txt P K mg) : FnOk P w K mg base (L2.CX P w) 1 T.a_law_frozen T.d_law_frozen ["rows"] (spD ⟨K, mg⟩ d_law_frozen) :=
  def_ok (k := 0) T.F_law_frozen sc_law_frozen rfl rfl fun cdv A outer s H E hr g =>
    (dss_one (ds_ret (de_callTy ow_tuple (by rfl) T.z_tuple b_tuple (da_cons (de_val (fe_lc g sc_law_frozen.nd (di_seq (de_var 0)) (blkOk_by (own := [("row", 1)]) (by kernel_rfl)) (fun _ _ _ _ _ => (dg_nm sc_law_frozen.nd rfl (by first | exact Or.inl rfl | exact Or.inr rfl))) (fun _ _ _ _ _ => dts_nil) (fun _ _ _ _ _ => (de_callTy ow_tuple (by rfl) T.z_tuple b_tuple (da_cons (de_var 1) da_nil))) (by decide))) da_nil))))
theorem ok_law_bump {P : Program} {w : World} {K : PySem.W.Frag} {mg : Str → Option Value} {base : Heap} (T : Txt P K mg) : FnOk P w K mg base (L2.CX P w) 1 T.a_law_bump T.d_law_bump ["rows", "x"] (spD ⟨K, mg⟩ d_law_bump) :=
  def_ok (k := 0) T.F_law_bump sc_law_bump rfl rfl fun cdv A outer s H E hr g =>
    (dss_cons (ds_set (i := 0) sc_law_bump.nd rfl (by first | exact Or.inl rfl | exact Or.inr rfl) (de_nest (fk_lc g sc_law_bump.nd (di_seq (de_var 0)) (blkOk_by (own := [("row", 2)]) (by kernel_rfl)) (fun _ _ _ _ _ => (dg_nm sc_law_bump.nd rfl (by first | exact Or.inl rfl | exact Or.inr rfl))) (fun _ _ _ _ _ => dts_nil) (fun _ _ _ _ _ => (de_cell (fe_callTy ow_list (by rfl) T.z_list b_list (da_cons (de_var 2) da_nil)))) (by decide))))
    (dss_cons (ds_for g (di_rng1 (by rfl) T.z_range (da_cons (de_callB ow_len (by rfl) T.z_len b_len (da_cons (de_var 0) da_nil)) da_nil)) (dg_nm sc_law_bump.nd rfl (by first | exact Or.inl rfl | exact Or.inr rfl)) (dss_cons (ds_setLcV (i := 4) g sc_law_bump.nd rfl rfl (sw_true rfl rfl rfl (by decide +kernel)) (di_rng1 (by rfl) T.z_range (da_cons (de_callB ow_len (by rfl) T.z_len b_len (da_cons (de_ix (de_var 0) (de_var 3) (fun _ _ => rfl)) da_nil)) da_nil)) (blkOk_by (own := [("k", 5)]) (by kernel_rfl)) (fun _ _ _ _ _ => (dg_nm sc_law_bump.nd rfl (by first | exact Or.inl rfl | exact Or.inr rfl))) (fun _ _ _ _ _ => (dts_one (dt_cmp ow_gt (de_ix (de_ix (de_var 0) (de_var 3) (fun _ _ => rfl)) (de_var 5) (fun _ _ => rfl)) (de_var 1) (nomark _)))) (fun _ _ _ _ _ => (de_var 5)) (by decide))
    (dss_cons (ds_if (dt_cmp (ow_eq hr.units) (de_callB ow_len (by rfl) T.z_len b_len (da_cons (de_var 4) da_nil)) de_int (nomark _)) (dss_cons (ds_expr (de_meth PySem.F.slot_list_append PySem.F.type_list_append ow_append (de_ix (de_var 0) (de_var 3) (fun _ _ => rfl)) (da_cons (de_var 1) da_nil)))
    (dss_one (ds_retT (da_cons (de_var 0) (da_cons (de_var 3) da_nil))))) dss_nil)
    (dss_cons (ds_set (i := 5) sc_law_bump.nd rfl (by first | exact Or.inl rfl | exact Or.inr rfl) (de_ix (de_var 4) de_int (fun _ _ => rfl)))
    (dss_cons (ds_set (i := 6) sc_law_bump.nd rfl (by first | exact Or.inl rfl | exact Or.inr rfl) (de_ix (de_ix (de_var 0) (de_var 3) (fun _ _ => rfl)) (de_var 5) (fun _ _ => rfl)))
    (dss_cons (ds_sub (de_var 1) (de_ix (de_var 0) (de_var 3) (fun _ _ => rfl)) (de_var 5))
    (dss_one (ds_set (i := 1) sc_law_bump.nd rfl (by first | exact Or.inl rfl | exact Or.inr rfl) (de_var 6)))))))))
    (dss_cons (ds_expr (de_meth PySem.F.slot_list_append PySem.F.type_list_append ow_append (de_var 0) (da_cons (de_cell (fe_lst (da_cons (de_var 1) da_nil))) da_nil)))
    (dss_one (ds_retT (da_cons (de_var 0) (da_cons (de_bin ow_sub (de_callB ow_len (by rfl) T.z_len b_len (da_cons (de_var 0) da_nil)) de_int) da_nil)))))))
theorem ok_law_pair {P : Program} {w : World} {K : PySem.W.Frag} {mg : Str → Option Value} {base : Heap} (T : Txt P K mg) : FnOk P w K mg base (L2.CX P w) 2 T.a_law_pair T.d_law_pair ["word"] (spD ⟨K, mg⟩ d_law_pair) :=
  def_ok (k := 1) T.F_law_pair sc_law_pair rfl rfl fun cdv A outer s H E hr g =>
    (dss_cons (ds_par (i := 1) (j := 2) rfl sc_law_pair.nd rfl rfl (by decide) rfl rfl (da_cons (de_nest (fk_lst da_nil)) (da_cons (de_nest (fk_lst da_nil)) da_nil)) (by rfl))
    (dss_cons (ds_for g (di_rng1 (by rfl) T.z_range (da_cons (de_callB ow_len (by rfl) T.z_len b_len (da_cons (de_var 0) da_nil)) da_nil)) (dg_nm sc_law_pair.nd rfl (by first | exact Or.inl rfl | exact Or.inr rfl)) (dss_cons (ds_asg (de_call g ((ok_law_bump T).mono (by decide)) hr (by rfl) T.m_law_bump T.F_law_bump.kp T.b_law_bump (da_cons (de_var 1) (da_cons (de_ix (de_var 0) (de_bin ow_sub (de_bin ow_sub (de_callB ow_len (by rfl) T.z_len b_len (da_cons (de_var 0) da_nil)) de_int) (de_var 3)) (fun _ _ => rfl)) da_nil))) (dg_tp rfl (dgs_cons (dg_nm sc_law_pair.nd rfl (by first | exact Or.inl rfl | exact Or.inr rfl)) (dgs_cons (dg_nm sc_law_pair.nd rfl (by first | exact Or.inl rfl | exact Or.inr rfl)) dgs_nil))))
    (dss_cons (ds_if (dt_cmp (ow_eq hr.units) (de_var 4) (de_callB ow_len (by rfl) T.z_len b_len (da_cons (de_var 2) da_nil)) (nomark _)) (dss_one (ds_expr (de_meth PySem.F.slot_list_append PySem.F.type_list_append ow_append (de_var 2) (da_cons (de_cell (fe_lst da_nil)) da_nil)))) dss_nil)
    (dss_one (ds_expr (de_meth PySem.F.slot_list_append PySem.F.type_list_append ow_append (de_ix (de_var 2) (de_var 4) (fun _ _ => rfl)) (da_cons (de_bin ow_add (de_var 3) de_int) da_nil)))))))
    (dss_one (ds_ret (de_tup (da_cons (de_call g ((ok_law_frozen T).mono (by decide)) hr (by rfl) T.m_law_frozen T.F_law_frozen.kp T.b_law_frozen (da_cons (de_var 1) da_nil)) (da_cons (de_call g ((ok_law_frozen T).mono (by decide)) hr (by rfl) T.m_law_frozen T.F_law_frozen.kp T.b_law_frozen (da_cons (de_var 2) da_nil)) da_nil)))))))
theorem ok_law_heap {P : Program} {w : World} {K : PySem.W.Frag} {mg : Str → Option Value} {base : Heap} (T : Txt P K mg) : FnOk P w K mg base (L2.CX P w) 2 T.a_law_heap T.d_law_heap ["state", "n", "most"] (spD ⟨K, mg⟩ d_law_heap) :=
  def_ok (k := 1) T.F_law_heap sc_law_heap rfl rfl fun cdv A outer s H E hr g =>
    (dss_cons (ds_setLcC (i := 3) g sc_law_heap.nd rfl rfl (sw_true rfl rfl rfl (by decide +kernel)) (di_rng1 (by rfl) T.z_range (da_cons (de_bin ow_add (de_var 1) de_int) da_nil)) (blkOk_by (own := [("a", 4)]) (by kernel_rfl)) (fun _ _ _ _ _ => (dg_nm sc_law_heap.nd rfl (by first | exact Or.inl rfl | exact Or.inr rfl))) (fun _ _ _ _ _ => dts_nil) (fun _ _ _ _ _ => de_int) (by decide))
    (dss_cons (ds_for g (di_rng1 (by rfl) T.z_range (da_cons (de_bin ow_add de_int (de_call g ((ok_law_take T).mono (by decide)) hr (by rfl) T.m_law_take T.F_law_take.kp T.b_law_take (da_cons (de_var 0) (da_cons (de_var 2) da_nil)))) da_nil)) (dg_nm sc_law_heap.nd rfl (by first | exact Or.inl rfl | exact Or.inr rfl)) (dss_one (ds_augS (de_var 3) (de_call g ((ok_law_take T).mono (by decide)) hr (by rfl) T.m_law_take T.F_law_take.kp T.b_law_take (da_cons (de_var 0) (da_cons (de_bin ow_add (de_var 1) de_int) da_nil))) de_int ow_iadd)))
    (dss_one (ds_ret (de_callTy ow_tuple (by rfl) T.z_tuple b_tuple (da_cons (de_var 3) da_nil))))))
theorem ok_law_letters {P : Program} {w : World} {K : PySem.W.Frag} {mg : Str → Option Value} {base : Heap} (T : Txt P K mg) : FnOk P w K mg base (L2.CX P w) 1 T.a_law_letters T.d_law_letters ["x"] (spD ⟨K, mg⟩ d_law_letters) :=
  def_ok (k := 0) T.F_law_letters sc_law_letters rfl rfl fun cdv A outer s H E hr g =>
    (dss_cons (ds_set (i := 1) sc_law_letters.nd rfl (by first | exact Or.inl rfl | exact Or.inr rfl) (de_val (fe_lst da_nil)))
    (dss_cons (ds_for g (di_rng1 (by rfl) T.z_range (da_cons (de_callB ow_len (by rfl) T.z_len b_len (da_cons (de_var 0) da_nil)) da_nil)) (dg_nm sc_law_letters.nd rfl (by first | exact Or.inl rfl | exact Or.inr rfl)) (dss_one (ds_set (i := 1) sc_law_letters.nd rfl (by first | exact Or.inl rfl | exact Or.inr rfl) (de_bin ow_add (de_var 1) (de_val (fe_lc g sc_law_letters.nd (di_rng1 (by rfl) T.z_range (da_cons (de_ix (de_var 0) (de_var 2) (fun _ _ => rfl)) da_nil)) (blkOk_by (own := [("k", 3)]) (by kernel_rfl)) (fun _ _ _ _ _ => (dg_nm sc_law_letters.nd rfl (by first | exact Or.inl rfl | exact Or.inr rfl))) (fun _ _ _ _ _ => dts_nil) (fun _ _ _ _ _ => (de_var 2)) (by decide)))))))
    (dss_one (ds_ret (de_var 1)))))
theorem ok_law_heap_word {P : Program} {w : World} {K : PySem.W.Frag} {mg : Str → Option Value} {base : Heap} (T : Txt P K mg) : FnOk P w K mg base (L2.CX P w) 2 T.a_law_heap_word T.d_law_heap_word ["heaps"] (spD ⟨K, mg⟩ d_law_heap_word) :=
  def_ok (k := 1) T.F_law_heap_word sc_law_heap_word rfl rfl fun cdv A outer s H E hr g =>
    (dss_cons (ds_set (i := 1) sc_law_heap_word.nd rfl (by first | exact Or.inl rfl | exact Or.inr rfl) (de_val (fe_lst da_nil)))
    (dss_cons (ds_for g (di_seq (de_var 0)) (dg_nm sc_law_heap_word.nd rfl (by first | exact Or.inl rfl | exact Or.inr rfl)) (dss_one (ds_set (i := 1) sc_law_heap_word.nd rfl (by first | exact Or.inl rfl | exact Or.inr rfl) (de_bin ow_add (de_var 1) (de_rev (de_val (fe_lc g sc_law_heap_word.nd (di_seq (de_call g ((ok_law_letters T).mono (by decide)) hr (by rfl) T.m_law_letters T.F_law_letters.kp T.b_law_letters (da_cons (de_var 2) da_nil))) (blkOk_by (own := [("a", 3)]) (by kernel_rfl)) (fun _ _ _ _ _ => (dg_nm sc_law_heap_word.nd rfl (by first | exact Or.inl rfl | exact Or.inr rfl))) (fun _ _ _ _ _ => dts_nil) (fun _ _ _ _ _ => (de_bin ow_add (de_var 3) de_int)) (by decide))))))))
    (dss_one (ds_ret (de_callTy ow_tuple (by rfl) T.z_tuple b_tuple (da_cons (de_var 1) da_nil))))))
theorem ok_law_refuses {P : Program} {w : World} {K : PySem.W.Frag} {mg : Str → Option Value} {base : Heap} (T : Txt P K mg) : FnOk P w K mg base (L2.CX P w) 10 T.a_law_refuses T.d_law_refuses ["p", "a", "b", "n"] (spD ⟨K, mg⟩ d_law_refuses) :=
  def_ok (k := 9) T.F_law_refuses sc_law_refuses rfl rfl fun cdv A outer s H E hr g =>
    (dss_cons (ds_try g rfl rfl ⟨rfl, by decide, .inl T.m_Malformed⟩ T.sub_Malformed (fun W pn xe g => (dss_one (ds_expr (de_call g ((ok_law_plain T 8).mono (by decide)) hr (by rfl) T.m_law_plain T.F_law_plain.kp T.b_law_plain (da_cons (de_call g ((ok_pair_of_heaps T).mono (by decide)) hr (by rfl) T.m_pair_of_heaps T.F_pair_of_heaps.kp T.b_pair_of_heaps (da_cons (de_var 0) (da_cons (de_var 1) (da_cons (de_var 2) (da_cons (de_var 3) da_nil))))) da_nil))))) (fun a pn => (dss_one (ds_ret de_bl))))
    (dss_one (ds_ret de_bl)))
theorem ok_law_all_heaps {P : Program} {w : World} {K : PySem.W.Frag} {mg : Str → Option Value} {base : Heap} (T : Txt P K mg) : FnOk P w K mg base (L2.CX P w) 1 T.a_law_all_heaps T.d_law_all_heaps ["size", "n"] (spD ⟨K, mg⟩ d_law_all_heaps) :=
  def_ok (k := 0) T.F_law_all_heaps sc_law_all_heaps rfl rfl fun cdv A outer s H E hr g =>
    (dss_cons (ds_set (i := 2) sc_law_all_heaps.nd rfl (by first | exact Or.inl rfl | exact Or.inr rfl) (de_val (fe_lst (da_cons (de_tup da_nil) da_nil))))
    (dss_cons (ds_for g (di_rng1 (by rfl) T.z_range (da_cons (de_var 1) da_nil)) (dg_nm sc_law_all_heaps.nd rfl (by first | exact Or.inl rfl | exact Or.inr rfl)) (dss_cons (ds_set (i := 4) sc_law_all_heaps.nd rfl (by first | exact Or.inl rfl | exact Or.inr rfl) (de_val (fe_lst da_nil)))
    (dss_cons (ds_for g (di_seq (de_var 2)) (dg_nm sc_law_all_heaps.nd rfl (by first | exact Or.inl rfl | exact Or.inr rfl)) (dss_one (ds_set (i := 4) sc_law_all_heaps.nd rfl (by first | exact Or.inl rfl | exact Or.inr rfl) (de_bin ow_add (de_var 4) (de_val (fe_lc g sc_law_all_heaps.nd (di_rng1 (by rfl) T.z_range (da_cons (de_bin ow_add (de_bin ow_sub (de_var 0) (de_callB (ow_sum rfl) (by rfl) T.z_sum b_sum (da_cons (de_var 5) da_nil))) de_int) da_nil)) (blkOk_by (own := [("c", 6)]) (by kernel_rfl)) (fun _ _ _ _ _ => (dg_nm sc_law_all_heaps.nd rfl (by first | exact Or.inl rfl | exact Or.inr rfl))) (fun _ _ _ _ _ => dts_nil) (fun _ _ _ _ _ => (de_bin ow_add (de_var 5) (de_tup (da_cons (de_var 6) da_nil)))) (by decide)))))))
    (dss_one (ds_set (i := 2) sc_law_all_heaps.nd rfl (by first | exact Or.inl rfl | exact Or.inr rfl) (de_var 4))))))
    (dss_one (ds_ret (de_val (fe_lc g sc_law_all_heaps.nd (di_seq (de_var 2)) (blkOk_by (own := [("head", 5)]) (by kernel_rfl)) (fun _ _ _ _ _ => (dg_nm sc_law_all_heaps.nd rfl (by first | exact Or.inl rfl | exact Or.inr rfl))) (fun _ _ _ _ _ => dts_nil) (fun _ _ _ _ _ => (de_bin ow_add (de_var 5) (de_tup (da_cons (de_bin ow_sub (de_var 0) (de_callB (ow_sum rfl) (by rfl) T.z_sum b_sum (da_cons (de_var 5) da_nil))) da_nil)))) (by decide)))))))
theorem ok_law_heap_of {P : Program} {w : World} {K : PySem.W.Frag} {mg : Str → Option Value} {base : Heap} (T : Txt P K mg) : FnOk P w K mg base (L2.CX P w) 1 T.a_law_heap_of T.d_law_heap_of ["letters", "n"] (spD ⟨K, mg⟩ d_law_heap_of) :=
  def_ok (k := 0) T.F_law_heap_of sc_law_heap_of rfl rfl fun cdv A outer s H E hr g =>
    (dss_one (ds_ret (de_callTy ow_tuple (by rfl) T.z_tuple b_tuple (da_cons (de_val (fe_lc g sc_law_heap_of.nd (di_rng1 (by rfl) T.z_range (da_cons (de_bin ow_add (de_var 1) de_int) da_nil)) (blkOk_by (own := [("a", 2)]) (by kernel_rfl)) (fun _ _ _ _ _ => (dg_nm sc_law_heap_of.nd rfl (by first | exact Or.inl rfl | exact Or.inr rfl))) (fun _ _ _ _ _ => dts_nil) (fun _ _ _ _ _ => (de_cnt PySem.F.slot_list_count PySem.F.slot_tuple_count (de_var 0) (da_cons (de_var 2) da_nil))) (by decide))) da_nil))))
theorem ok_law_content {P : Program} {w : World} {K : PySem.W.Frag} {mg : Str → Option Value} {base : Heap} (T : Txt P K mg) : FnOk P w K mg base (L2.CX P w) 2 T.a_law_content T.d_law_content ["p", "n"] (spD ⟨K, mg⟩ d_law_content) :=
  def_ok (k := 1) T.F_law_content sc_law_content rfl rfl fun cdv A outer s H E hr g =>
    (dss_cons (ds_set (i := 2) sc_law_content.nd rfl (by first | exact Or.inl rfl | exact Or.inr rfl) (de_val (fe_lst da_nil)))
    (dss_cons (ds_for g (di_seq (de_var 0)) (dg_nm sc_law_content.nd rfl (by first | exact Or.inl rfl | exact Or.inr rfl)) (dss_one (ds_set (i := 2) sc_law_content.nd rfl (by first | exact Or.inl rfl | exact Or.inr rfl) (de_bin ow_add (de_var 2) (de_val (fe_lc g sc_law_content.nd (di_seq (de_var 3)) (blkOk_by (own := [("x", 4)]) (by kernel_rfl)) (fun _ _ _ _ _ => (dg_nm sc_law_content.nd rfl (by first | exact Or.inl rfl | exact Or.inr rfl))) (fun _ _ _ _ _ => dts_nil) (fun _ _ _ _ _ => (de_bin ow_sub (de_var 4) de_int)) (by decide)))))))
    (dss_one (ds_ret (de_call g ((ok_law_heap_of T).mono (by decide)) hr (by rfl) T.m_law_heap_of T.F_law_heap_of.kp T.b_law_heap_of (da_cons (de_var 2) (da_cons (de_var 1) da_nil)))))))
theorem ok_law_walked {P : Program} {w : World} {K : PySem.W.Frag} {mg : Str → Option Value} {base : Heap} (T : Txt P K mg) : FnOk P w K mg base (L2.CX P w) 3 T.a_law_walked T.d_law_walked ["p", "a", "b", "n"] (spD ⟨K, mg⟩ d_law_walked) :=
  def_ok (k := 2) T.F_law_walked sc_law_walked rfl rfl fun cdv A outer s H E hr g =>
    (dss_cons (ds_if (dt_cmp (ow_ne hr.units) (de_callB (ow_sum rfl) (by rfl) T.z_sum b_sum (da_cons (de_val (fe_lc g sc_law_walked.nd (di_seq (de_var 0)) (blkOk_by (own := [("row", 4)]) (by kernel_rfl)) (fun _ _ _ _ _ => (dg_nm sc_law_walked.nd rfl (by first | exact Or.inl rfl | exact Or.inr rfl))) (fun _ _ _ _ _ => dts_nil) (fun _ _ _ _ _ => (de_callB ow_len (by rfl) T.z_len b_len (da_cons (de_var 4) da_nil))) (by decide))) da_nil)) (de_bin ow_add (de_var 1) (de_var 2)) (nomark _)) (dss_one (ds_ret (de_val (fe_lst da_nil)))) dss_nil)
    (dss_cons (ds_set (i := 5) sc_law_walked.nd rfl (by first | exact Or.inl rfl | exact Or.inr rfl) (de_call g ((ok_law_content T).mono (by decide)) hr (by rfl) T.m_law_content T.F_law_content.kp T.b_law_content (da_cons (de_var 0) (da_cons (de_var 3) da_nil))))
    (dss_cons (ds_set (i := 6) sc_law_walked.nd rfl (by first | exact Or.inl rfl | exact Or.inr rfl) (de_cell (fe_lst da_nil)))
    (dss_cons (ds_for g (di_seq (de_call g ((ok_law_all_heaps T).mono (by decide)) hr (by rfl) T.m_law_all_heaps T.F_law_all_heaps.kp T.b_law_all_heaps (da_cons (de_var 1) (da_cons (de_var 3) da_nil)))) (dg_nm sc_law_walked.nd rfl (by first | exact Or.inl rfl | exact Or.inr rfl)) (dss_cons (ds_set (i := 8) sc_law_walked.nd rfl (by first | exact Or.inl rfl | exact Or.inr rfl) (de_callTy ow_tuple (by rfl) T.z_tuple b_tuple (da_cons (de_val (fe_lc g sc_law_walked.nd (di_rng1 (by rfl) T.z_range (da_cons (de_bin ow_add (de_var 3) de_int) da_nil)) (blkOk_by (own := [("k", 9)]) (by kernel_rfl)) (fun _ _ _ _ _ => (dg_nm sc_law_walked.nd rfl (by first | exact Or.inl rfl | exact Or.inr rfl))) (fun _ _ _ _ _ => dts_nil) (fun _ _ _ _ _ => (de_bin ow_sub (de_ix (de_var 5) (de_var 9) (fun _ _ => rfl)) (de_ix (de_var 7) (de_var 9) (fun _ _ => rfl)))) (by decide))) da_nil)))
    (dss_one (ds_if (dt_w (dw_and (dt_cmp ow_ge (de_callB (ow_min2 rfl hr.units) (by rfl) T.z_min b_min (da_cons (de_var 8) da_nil)) de_int (nomark _)) (dw_and1 (dt_cmp (ow_eq hr.units) (de_ix (de_call g ((ok_law_pair T).mono (by decide)) hr (by rfl) T.m_law_pair T.F_law_pair.kp T.b_law_pair (da_cons (de_call g ((ok_law_heap_word T).mono (by decide)) hr (by rfl) T.m_law_heap_word T.F_law_heap_word.kp T.b_law_heap_word (da_cons (de_tup (da_cons (de_var 7) (da_cons (de_var 8) da_nil))) da_nil)) da_nil)) de_int (fun _ _ => rfl)) (de_var 0) (nomark _))))) (dss_one (ds_expr (de_meth PySem.F.slot_list_append PySem.F.type_list_append ow_append (de_var 6) (da_cons (de_tup (da_cons (de_var 7) (da_cons (de_var 8) da_nil))) da_nil)))) dss_nil))))
    (dss_one (ds_ret (de_var 6)))))))
theorem ok_law {P : Program} {w : World} {K : PySem.W.Frag} {mg : Str → Option Value} {base : Heap} (T : Txt P K mg) : FnOk P w K mg base (L2.CX P w) 11 T.a_law T.d_law ["script"] (spD ⟨K, mg⟩ d_law) :=
  def_ok (k := 10) T.F_law sc_law rfl rfl fun cdv A outer s H E hr g =>
    (dss_cons (ds_set (i := 1) sc_law.nd rfl (by first | exact Or.inl rfl | exact Or.inr rfl) (de_call g ((ok_law_state T).mono (by decide)) hr (by rfl) T.m_law_state T.F_law_state.kp T.b_law_state (da_cons (de_var 0) da_nil)))
    (dss_cons (ds_set (i := 2) sc_law.nd rfl (by first | exact Or.inl rfl | exact Or.inr rfl) (de_bin ow_add de_int (de_call g ((ok_law_take T).mono (by decide)) hr (by rfl) T.m_law_take T.F_law_take.kp T.b_law_take (da_cons (de_var 1) (da_cons de_int da_nil)))))
    (dss_cons (ds_set (i := 3) sc_law.nd rfl (by first | exact Or.inl rfl | exact Or.inr rfl) (de_ix (de_val (fe_lst (da_cons de_int (da_cons de_int (da_cons de_int da_nil))))) (de_bin ow_sub (de_var 2) de_int) (fun _ _ => rfl)))
    (dss_cons (ds_par (i := 4) (j := 5) rfl sc_law.nd rfl rfl (by decide) rfl rfl (da_cons (de_call g ((ok_law_heap T).mono (by decide)) hr (by rfl) T.m_law_heap T.F_law_heap.kp T.b_law_heap (da_cons (de_var 1) (da_cons (de_var 2) (da_cons (de_callB (ow_min2 rfl hr.units) (by rfl) T.z_min b_min (da_cons (de_var 3) (da_cons de_int da_nil))) da_nil)))) (da_cons (de_call g ((ok_law_heap T).mono (by decide)) hr (by rfl) T.m_law_heap T.F_law_heap.kp T.b_law_heap (da_cons (de_var 1) (da_cons (de_var 2) (da_cons (de_callB (ow_min2 rfl hr.units) (by rfl) T.z_min b_min (da_cons (de_var 3) (da_cons de_int da_nil))) da_nil)))) da_nil)) (by rfl))
    (dss_cons (ds_set (i := 6) sc_law.nd rfl (by first | exact Or.inl rfl | exact Or.inr rfl) (de_ix (de_call g ((ok_law_pair T).mono (by decide)) hr (by rfl) T.m_law_pair T.F_law_pair.kp T.b_law_pair (da_cons (de_call g ((ok_law_heap_word T).mono (by decide)) hr (by rfl) T.m_law_heap_word T.F_law_heap_word.kp T.b_law_heap_word (da_cons (de_tup (da_cons (de_var 4) (da_cons (de_var 5) da_nil))) da_nil)) da_nil)) de_int (fun _ _ => rfl)))
    (dss_cons (ds_if (dt_cmp (ow_eq hr.units) (de_call g ((ok_law_take T).mono (by decide)) hr (by rfl) T.m_law_take T.F_law_take.kp T.b_law_take (da_cons (de_var 1) (da_cons de_int da_nil))) de_int (nomark _)) (dss_one (ds_set (i := 6) sc_law.nd rfl (by first | exact Or.inl rfl | exact Or.inr rfl) (de_ix (de_call g ((ok_law_pair T).mono (by decide)) hr (by rfl) T.m_law_pair T.F_law_pair.kp T.b_law_pair (da_cons (de_call g ((ok_law_word T).mono (by decide)) hr (by rfl) T.m_law_word T.F_law_word.kp T.b_law_word (da_cons (de_var 1) (da_cons de_int (da_cons (de_bin ow_add (de_var 2) de_int) da_nil)))) da_nil)) de_int (fun _ _ => rfl)))) dss_nil)
    (dss_cons (ds_set (i := 7) sc_law.nd rfl (by first | exact Or.inl rfl | exact Or.inr rfl) (de_callB (ow_sum rfl) (by rfl) T.z_sum b_sum (da_cons (de_val (fe_lc g sc_law.nd (di_seq (de_var 6)) (blkOk_by (own := [("row", 8)]) (by kernel_rfl)) (fun _ _ _ _ _ => (dg_nm sc_law.nd rfl (by first | exact Or.inl rfl | exact Or.inr rfl))) (fun _ _ _ _ _ => dts_nil) (fun _ _ _ _ _ => (de_callB ow_len (by rfl) T.z_len b_len (da_cons (de_var 8) da_nil))) (by decide))) da_nil)))
    (dss_cons (ds_for g (di_rng1 (by rfl) T.z_range (da_cons de_int da_nil)) (dg_nm sc_law.nd rfl (by first | exact Or.inl rfl | exact Or.inr rfl)) (dss_cons (ds_set (i := 10) sc_law.nd rfl (by first | exact Or.inl rfl | exact Or.inr rfl) (de_bin ow_add de_int (de_call g ((ok_law_take T).mono (by decide)) hr (by rfl) T.m_law_take T.F_law_take.kp T.b_law_take (da_cons (de_var 1) (da_cons de_int da_nil)))))
    (dss_cons (ds_set (i := 11) sc_law.nd rfl (by first | exact Or.inl rfl | exact Or.inr rfl) (de_bin ow_sub (de_var 7) (de_var 10)))
    (dss_cons (ds_if (dt_cmp (ow_eq hr.units) (de_call g ((ok_law_take T).mono (by decide)) hr (by rfl) T.m_law_take T.F_law_take.kp T.b_law_take (da_cons (de_var 1) (da_cons de_int da_nil))) de_int (nomark _)) (dss_one (ds_set (i := 11) sc_law.nd rfl (by first | exact Or.inl rfl | exact Or.inr rfl) (de_bin ow_add de_int (de_call g ((ok_law_take T).mono (by decide)) hr (by rfl) T.m_law_take T.F_law_take.kp T.b_law_take (da_cons (de_var 1) (da_cons de_int da_nil)))))) dss_nil)
    (dss_one (ds_if (dt_chain ow_le ow_le de_int (de_var 11) de_int) (dss_cons (ds_set (i := 12) sc_law.nd rfl (by first | exact Or.inl rfl | exact Or.inr rfl) (de_call g ((ok_law_plain T 8).mono (by decide)) hr (by rfl) T.m_law_plain T.F_law_plain.kp T.b_law_plain (da_cons (de_call g ((ok_pair_of_heaps T).mono (by decide)) hr (by rfl) T.m_pair_of_heaps T.F_pair_of_heaps.kp T.b_pair_of_heaps (da_cons (de_var 6) (da_cons (de_var 10) (da_cons (de_var 11) (da_cons (de_var 2) da_nil))))) da_nil)))
    (dss_cons (ds_set (i := 13) sc_law.nd rfl (by first | exact Or.inl rfl | exact Or.inr rfl) (de_call g ((ok_law_walked T).mono (by decide)) hr (by rfl) T.m_law_walked T.F_law_walked.kp T.b_law_walked (da_cons (de_var 6) (da_cons (de_var 10) (da_cons (de_var 11) (da_cons (de_var 2) da_nil))))))
    (dss_one (ds_if (dt_w (dw_or (dt_cmp ow_gt (de_callB ow_len (by rfl) T.z_len b_len (da_cons (de_var 13) da_nil)) de_int (nomark _)) (dw_or1 (dt_cmp (ow_ne hr.units) (de_var 12) (de_ite (dt_cmp (ow_eq hr.units) (de_callB ow_len (by rfl) T.z_len b_len (da_cons (de_var 13) da_nil)) de_int (nomark _)) (de_ix (de_var 13) de_int (fun _ _ => rfl)) de_non) (nomark _))))) (dss_one (ds_ret de_bl)) dss_nil)))) dss_nil))))))
    (dss_cons (ds_par (i := 10) (j := 11) rfl sc_law.nd rfl rfl (by decide) rfl rfl (da_cons (de_callB (ow_sum rfl) (by rfl) T.z_sum b_sum (da_cons (de_var 4) da_nil)) (da_cons (de_callB (ow_sum rfl) (by rfl) T.z_sum b_sum (da_cons (de_var 5) da_nil)) da_nil)) (by rfl))
    (dss_cons (ds_set (i := 14) sc_law.nd rfl (by first | exact Or.inl rfl | exact Or.inr rfl) (de_ix (de_call g ((ok_law_pair T).mono (by decide)) hr (by rfl) T.m_law_pair T.F_law_pair.kp T.b_law_pair (da_cons (de_call g ((ok_law_heap_word T).mono (by decide)) hr (by rfl) T.m_law_heap_word T.F_law_heap_word.kp T.b_law_heap_word (da_cons (de_tup (da_cons (de_var 4) (da_cons (de_var 5) da_nil))) da_nil)) da_nil)) de_int (fun _ _ => rfl)))
    (dss_cons (ds_if (dt_cmp (ow_ne hr.units) (de_call g ((ok_law_plain T 8).mono (by decide)) hr (by rfl) T.m_law_plain T.F_law_plain.kp T.b_law_plain (da_cons (de_call g ((ok_pair_of_heaps T).mono (by decide)) hr (by rfl) T.m_pair_of_heaps T.F_pair_of_heaps.kp T.b_pair_of_heaps (da_cons (de_var 14) (da_cons (de_var 10) (da_cons (de_var 11) (da_cons (de_var 2) da_nil))))) da_nil)) (de_tup (da_cons (de_var 4) (da_cons (de_var 5) da_nil))) (nomark _)) (dss_one (ds_ret de_bl)) dss_nil)
    (dss_cons (ds_for g (di_seq (de_val (fe_lst (da_cons de_non (da_cons de_int (da_cons de_str (da_cons (de_bin ow_add (de_val (fe_callTy ow_list (by rfl) T.z_list b_list (da_cons (de_var 14) da_nil))) (de_val (fe_lst (da_cons (de_tup (da_cons de_int da_nil)) da_nil)))) (da_cons (de_bin ow_add (de_var 14) (de_tup (da_cons (de_bin ow_mul1 (de_tup (da_cons (de_bin ow_add (de_var 2) de_int) da_nil)) de_int) da_nil))) (da_cons (de_tup (da_cons (de_tup (da_cons (de_bin ow_add (de_var 2) de_int) da_nil)) da_nil)) (da_cons (de_tup (da_cons (de_tup (da_cons de_int da_nil)) da_nil)) (da_cons (de_tup (da_cons (de_tup (da_cons de_bl da_nil)) da_nil)) (da_cons (de_tup (da_cons (de_tup (da_cons de_int (da_cons de_int da_nil))) da_nil)) (da_cons (de_tup (da_cons (de_tup (da_cons de_int da_nil)) (da_cons (de_tup (da_cons de_int da_nil)) da_nil))) (da_cons (de_tup (da_cons (de_bin ow_mul1 (de_tup (da_cons de_int da_nil)) de_int) da_nil)) da_nil)))))))))))))) (dg_nm sc_law.nd rfl (by first | exact Or.inl rfl | exact Or.inr rfl)) (dss_one (ds_if (dt_not (dt_tru (de_call g ((ok_law_refuses T).mono (by decide)) hr (by rfl) T.m_law_refuses T.F_law_refuses.kp T.b_law_refuses (da_cons (de_var 15) (da_cons (de_var 10) (da_cons (de_var 11) (da_cons (de_var 2) da_nil))))))) (dss_one (ds_ret de_bl)) dss_nil)))
    (dss_cons (ds_for g (di_seq (de_val (fe_lst (da_cons de_int (da_cons de_int (da_cons (de_un ow_neg de_int) (da_cons de_bl (da_cons de_non (da_cons de_str (da_cons (de_tup (da_cons de_int da_nil)) da_nil)))))))))) (dg_nm sc_law.nd rfl (by first | exact Or.inl rfl | exact Or.inr rfl)) (dss_one (ds_if (dt_w (dw_or (dt_not (dt_tru (de_call g ((ok_law_refuses T).mono (by decide)) hr (by rfl) T.m_law_refuses T.F_law_refuses.kp T.b_law_refuses (da_cons (de_var 14) (da_cons (de_var 15) (da_cons (de_var 11) (da_cons (de_var 2) da_nil))))))) (dw_or1 (dt_not (dt_tru (de_call g ((ok_law_refuses T).mono (by decide)) hr (by rfl) T.m_law_refuses T.F_law_refuses.kp T.b_law_refuses (da_cons (de_var 14) (da_cons (de_var 10) (da_cons (de_var 15) (da_cons (de_var 2) da_nil)))))))))) (dss_one (ds_ret de_bl)) dss_nil)))
    (dss_cons (ds_for g (di_seq (de_val (fe_lst (da_cons de_int (da_cons de_int (da_cons (de_un ow_neg de_int) (da_cons de_bl (da_cons de_non (da_cons de_str da_nil))))))))) (dg_nm sc_law.nd rfl (by first | exact Or.inl rfl | exact Or.inr rfl)) (dss_one (ds_if (dt_not (dt_tru (de_call g ((ok_law_refuses T).mono (by decide)) hr (by rfl) T.m_law_refuses T.F_law_refuses.kp T.b_law_refuses (da_cons (de_tup (da_cons (de_tup (da_cons de_int da_nil)) da_nil)) (da_cons de_int (da_cons de_int (da_cons (de_var 15) da_nil))))))) (dss_one (ds_ret de_bl)) dss_nil)))
    (dss_one (ds_ret (de_cmp ow_is (de_call g ((ok_law_plain T 8).mono (by decide)) hr (by rfl) T.m_law_plain T.F_law_plain.kp T.b_law_plain (da_cons (de_call g ((ok_pair_of_heaps T).mono (by decide)) hr (by rfl) T.m_pair_of_heaps T.F_pair_of_heaps.kp T.b_pair_of_heaps (da_cons (de_tup da_nil) (da_cons de_int (da_cons de_int (da_cons (de_var 2) da_nil))))) da_nil)) de_non (nomark _))))))))))))))))))
/-! the facts from the top -/
def txt_mk {P : Program} {K : PySem.W.Frag} {h : Heap} {mg : Str → Option Value} (X : K.In h) (G : h.Ns mainGlobals mg)
    {f_is_integer : Addr} {od_is_integer an_is_integer : Option Addr} {sl_is_integer : Array (Option Value)} {oc_is_integer kV_is_integer dc_is_integer pm_is_integer cd_is_integer ct_is_integer : Value}
    {f_counted : Addr} {od_counted an_counted : Option Addr} {sl_counted : Array (Option Value)} {oc_counted kV_counted dc_counted pm_counted cd_counted ct_counted : Value}
    {f_has_rows : Addr} {od_has_rows an_has_rows : Option Addr} {sl_has_rows : Array (Option Value)} {oc_has_rows kV_has_rows dc_has_rows pm_has_rows cd_has_rows ct_has_rows : Value}
    {f_ascends : Addr} {od_ascends an_ascends : Option Addr} {sl_ascends : Array (Option Value)} {oc_ascends kV_ascends dc_ascends pm_ascends cd_ascends ct_ascends : Value}
    {f_is_tableau : Addr} {od_is_tableau an_is_tableau : Option Addr} {sl_is_tableau : Array (Option Value)} {oc_is_tableau kV_is_tableau dc_is_tableau pm_is_tableau cd_is_tableau ct_is_tableau : Value}
    {f_shape_of : Addr} {od_shape_of an_shape_of : Option Addr} {sl_shape_of : Array (Option Value)} {oc_shape_of kV_shape_of dc_shape_of pm_shape_of cd_shape_of ct_shape_of : Value}
    {f_without_box : Addr} {od_without_box an_without_box : Option Addr} {sl_without_box : Array (Option Value)} {oc_without_box kV_without_box dc_without_box pm_without_box cd_without_box ct_without_box : Value}
    {f_taken : Addr} {od_taken an_taken : Option Addr} {sl_taken : Array (Option Value)} {oc_taken kV_taken dc_taken pm_taken cd_taken ct_taken : Value}
    {f_pair_of_heaps : Addr} {od_pair_of_heaps an_pair_of_heaps : Option Addr} {sl_pair_of_heaps : Array (Option Value)} {oc_pair_of_heaps kV_pair_of_heaps dc_pair_of_heaps pm_pair_of_heaps cd_pair_of_heaps ct_pair_of_heaps : Value}
    {f_law_state : Addr} {od_law_state an_law_state : Option Addr} {sl_law_state : Array (Option Value)} {oc_law_state kV_law_state dc_law_state pm_law_state cd_law_state ct_law_state : Value}
    {f_law_take : Addr} {od_law_take an_law_take : Option Addr} {sl_law_take : Array (Option Value)} {oc_law_take kV_law_take dc_law_take pm_law_take cd_law_take ct_law_take : Value}
    {f_law_plain : Addr} {od_law_plain an_law_plain : Option Addr} {sl_law_plain : Array (Option Value)} {oc_law_plain kV_law_plain dc_law_plain pm_law_plain cd_law_plain ct_law_plain : Value}
    {f_law_word : Addr} {od_law_word an_law_word : Option Addr} {sl_law_word : Array (Option Value)} {oc_law_word kV_law_word dc_law_word pm_law_word cd_law_word ct_law_word : Value}
    {f_law_frozen : Addr} {od_law_frozen an_law_frozen : Option Addr} {sl_law_frozen : Array (Option Value)} {oc_law_frozen kV_law_frozen dc_law_frozen pm_law_frozen cd_law_frozen ct_law_frozen : Value}
    {f_law_bump : Addr} {od_law_bump an_law_bump : Option Addr} {sl_law_bump : Array (Option Value)} {oc_law_bump kV_law_bump dc_law_bump pm_law_bump cd_law_bump ct_law_bump : Value}
    {f_law_pair : Addr} {od_law_pair an_law_pair : Option Addr} {sl_law_pair : Array (Option Value)} {oc_law_pair kV_law_pair dc_law_pair pm_law_pair cd_law_pair ct_law_pair : Value}
    {f_law_heap : Addr} {od_law_heap an_law_heap : Option Addr} {sl_law_heap : Array (Option Value)} {oc_law_heap kV_law_heap dc_law_heap pm_law_heap cd_law_heap ct_law_heap : Value}
    {f_law_letters : Addr} {od_law_letters an_law_letters : Option Addr} {sl_law_letters : Array (Option Value)} {oc_law_letters kV_law_letters dc_law_letters pm_law_letters cd_law_letters ct_law_letters : Value}
    {f_law_heap_word : Addr} {od_law_heap_word an_law_heap_word : Option Addr} {sl_law_heap_word : Array (Option Value)} {oc_law_heap_word kV_law_heap_word dc_law_heap_word pm_law_heap_word cd_law_heap_word ct_law_heap_word : Value}
    {f_law_refuses : Addr} {od_law_refuses an_law_refuses : Option Addr} {sl_law_refuses : Array (Option Value)} {oc_law_refuses kV_law_refuses dc_law_refuses pm_law_refuses cd_law_refuses ct_law_refuses : Value}
    {f_law_all_heaps : Addr} {od_law_all_heaps an_law_all_heaps : Option Addr} {sl_law_all_heaps : Array (Option Value)} {oc_law_all_heaps kV_law_all_heaps dc_law_all_heaps pm_law_all_heaps cd_law_all_heaps ct_law_all_heaps : Value}
    {f_law_heap_of : Addr} {od_law_heap_of an_law_heap_of : Option Addr} {sl_law_heap_of : Array (Option Value)} {oc_law_heap_of kV_law_heap_of dc_law_heap_of pm_law_heap_of cd_law_heap_of ct_law_heap_of : Value}
    {f_law_content : Addr} {od_law_content an_law_content : Option Addr} {sl_law_content : Array (Option Value)} {oc_law_content kV_law_content dc_law_content pm_law_content cd_law_content ct_law_content : Value}
    {f_law_walked : Addr} {od_law_walked an_law_walked : Option Addr} {sl_law_walked : Array (Option Value)} {oc_law_walked kV_law_walked dc_law_walked pm_law_walked cd_law_walked ct_law_walked : Value}
    {f_law : Addr} {od_law an_law : Option Addr} {sl_law : Array (Option Value)} {oc_law kV_law dc_law pm_law cd_law ct_law : Value}
    {t_MOST_COLOUR : Tok}
    {t_MOST_LENGTH : Tok}
    {t_MOST_LETTER : Tok}
    {t_MOST_ROOM : Tok}
    {C_Malformed : Addr}
    (a1_is_integer : PySem.W.nsIn K mainGlobals "is_integer" = some (some (.ref f_is_integer))) (l1_is_integer : K.lookup f_is_integer = some ⟨oc_is_integer, od_is_integer, .func (PySem.W.fnOf "is_integer" "is_integer" (defArgs s_is_integer) (defBody s_is_integer) (defScope s_is_integer) .none kV_is_integer dc_is_integer pm_is_integer an_is_integer cd_is_integer ct_is_integer), sl_is_integer⟩) (c1_is_integer : PySem.W.codeIn K cd_is_integer "is_integer" = true) (k1_is_integer : PySem.W.keepIn K (.ref f_is_integer) = true)
    (a1_counted : PySem.W.nsIn K mainGlobals "counted" = some (some (.ref f_counted))) (l1_counted : K.lookup f_counted = some ⟨oc_counted, od_counted, .func (PySem.W.fnOf "counted" "counted" (defArgs s_counted) (defBody s_counted) (defScope s_counted) .none kV_counted dc_counted pm_counted an_counted cd_counted ct_counted), sl_counted⟩) (c1_counted : PySem.W.codeIn K cd_counted "counted" = true) (k1_counted : PySem.W.keepIn K (.ref f_counted) = true)
    (a1_has_rows : PySem.W.nsIn K mainGlobals "has_rows" = some (some (.ref f_has_rows))) (l1_has_rows : K.lookup f_has_rows = some ⟨oc_has_rows, od_has_rows, .func (PySem.W.fnOf "has_rows" "has_rows" (defArgs s_has_rows) (defBody s_has_rows) (defScope s_has_rows) .none kV_has_rows dc_has_rows pm_has_rows an_has_rows cd_has_rows ct_has_rows), sl_has_rows⟩) (c1_has_rows : PySem.W.codeIn K cd_has_rows "has_rows" = true) (k1_has_rows : PySem.W.keepIn K (.ref f_has_rows) = true)
    (a1_ascends : PySem.W.nsIn K mainGlobals "ascends" = some (some (.ref f_ascends))) (l1_ascends : K.lookup f_ascends = some ⟨oc_ascends, od_ascends, .func (PySem.W.fnOf "ascends" "ascends" (defArgs s_ascends) (defBody s_ascends) (defScope s_ascends) .none kV_ascends dc_ascends pm_ascends an_ascends cd_ascends ct_ascends), sl_ascends⟩) (c1_ascends : PySem.W.codeIn K cd_ascends "ascends" = true) (k1_ascends : PySem.W.keepIn K (.ref f_ascends) = true)
    (a1_is_tableau : PySem.W.nsIn K mainGlobals "is_tableau" = some (some (.ref f_is_tableau))) (l1_is_tableau : K.lookup f_is_tableau = some ⟨oc_is_tableau, od_is_tableau, .func (PySem.W.fnOf "is_tableau" "is_tableau" (defArgs s_is_tableau) (defBody s_is_tableau) (defScope s_is_tableau) .none kV_is_tableau dc_is_tableau pm_is_tableau an_is_tableau cd_is_tableau ct_is_tableau), sl_is_tableau⟩) (c1_is_tableau : PySem.W.codeIn K cd_is_tableau "is_tableau" = true) (k1_is_tableau : PySem.W.keepIn K (.ref f_is_tableau) = true)
    (a1_shape_of : PySem.W.nsIn K mainGlobals "shape_of" = some (some (.ref f_shape_of))) (l1_shape_of : K.lookup f_shape_of = some ⟨oc_shape_of, od_shape_of, .func (PySem.W.fnOf "shape_of" "shape_of" (defArgs s_shape_of) (defBody s_shape_of) (defScope s_shape_of) .none kV_shape_of dc_shape_of pm_shape_of an_shape_of cd_shape_of ct_shape_of), sl_shape_of⟩) (c1_shape_of : PySem.W.codeIn K cd_shape_of "shape_of" = true) (k1_shape_of : PySem.W.keepIn K (.ref f_shape_of) = true)
    (a1_without_box : PySem.W.nsIn K mainGlobals "without_box" = some (some (.ref f_without_box))) (l1_without_box : K.lookup f_without_box = some ⟨oc_without_box, od_without_box, .func (PySem.W.fnOf "without_box" "without_box" (defArgs s_without_box) (defBody s_without_box) (defScope s_without_box) .none kV_without_box dc_without_box pm_without_box an_without_box cd_without_box ct_without_box), sl_without_box⟩) (c1_without_box : PySem.W.codeIn K cd_without_box "without_box" = true) (k1_without_box : PySem.W.keepIn K (.ref f_without_box) = true)
    (a1_taken : PySem.W.nsIn K mainGlobals "taken" = some (some (.ref f_taken))) (l1_taken : K.lookup f_taken = some ⟨oc_taken, od_taken, .func (PySem.W.fnOf "taken" "taken" (defArgs s_taken) (defBody s_taken) (defScope s_taken) .none kV_taken dc_taken pm_taken an_taken cd_taken ct_taken), sl_taken⟩) (c1_taken : PySem.W.codeIn K cd_taken "taken" = true) (k1_taken : PySem.W.keepIn K (.ref f_taken) = true)
    (a1_pair_of_heaps : PySem.W.nsIn K mainGlobals "pair_of_heaps" = some (some (.ref f_pair_of_heaps))) (l1_pair_of_heaps : K.lookup f_pair_of_heaps = some ⟨oc_pair_of_heaps, od_pair_of_heaps, .func (PySem.W.fnOf "pair_of_heaps" "pair_of_heaps" (defArgs s_pair_of_heaps) (defBody s_pair_of_heaps) (defScope s_pair_of_heaps) .none kV_pair_of_heaps dc_pair_of_heaps pm_pair_of_heaps an_pair_of_heaps cd_pair_of_heaps ct_pair_of_heaps), sl_pair_of_heaps⟩) (c1_pair_of_heaps : PySem.W.codeIn K cd_pair_of_heaps "pair_of_heaps" = true) (k1_pair_of_heaps : PySem.W.keepIn K (.ref f_pair_of_heaps) = true)
    (a1_law_state : PySem.W.nsIn K mainGlobals "_law_state" = some (some (.ref f_law_state))) (l1_law_state : K.lookup f_law_state = some ⟨oc_law_state, od_law_state, .func (PySem.W.fnOf "_law_state" "_law_state" (defArgs s_law_state) (defBody s_law_state) (defScope s_law_state) .none kV_law_state dc_law_state pm_law_state an_law_state cd_law_state ct_law_state), sl_law_state⟩) (c1_law_state : PySem.W.codeIn K cd_law_state "_law_state" = true) (k1_law_state : PySem.W.keepIn K (.ref f_law_state) = true)
    (a1_law_take : PySem.W.nsIn K mainGlobals "_law_take" = some (some (.ref f_law_take))) (l1_law_take : K.lookup f_law_take = some ⟨oc_law_take, od_law_take, .func (PySem.W.fnOf "_law_take" "_law_take" (defArgs s_law_take) (defBody s_law_take) (defScope s_law_take) .none kV_law_take dc_law_take pm_law_take an_law_take cd_law_take ct_law_take), sl_law_take⟩) (c1_law_take : PySem.W.codeIn K cd_law_take "_law_take" = true) (k1_law_take : PySem.W.keepIn K (.ref f_law_take) = true)
    (a1_law_plain : PySem.W.nsIn K mainGlobals "_law_plain" = some (some (.ref f_law_plain))) (l1_law_plain : K.lookup f_law_plain = some ⟨oc_law_plain, od_law_plain, .func (PySem.W.fnOf "_law_plain" "_law_plain" (defArgs s_law_plain) (defBody s_law_plain) (defScope s_law_plain) .none kV_law_plain dc_law_plain pm_law_plain an_law_plain cd_law_plain ct_law_plain), sl_law_plain⟩) (c1_law_plain : PySem.W.codeIn K cd_law_plain "_law_plain" = true) (k1_law_plain : PySem.W.keepIn K (.ref f_law_plain) = true)
    (a1_law_word : PySem.W.nsIn K mainGlobals "_law_word" = some (some (.ref f_law_word))) (l1_law_word : K.lookup f_law_word = some ⟨oc_law_word, od_law_word, .func (PySem.W.fnOf "_law_word" "_law_word" (defArgs s_law_word) (defBody s_law_word) (defScope s_law_word) .none kV_law_word dc_law_word pm_law_word an_law_word cd_law_word ct_law_word), sl_law_word⟩) (c1_law_word : PySem.W.codeIn K cd_law_word "_law_word" = true) (k1_law_word : PySem.W.keepIn K (.ref f_law_word) = true)
    (a1_law_frozen : PySem.W.nsIn K mainGlobals "_law_frozen" = some (some (.ref f_law_frozen))) (l1_law_frozen : K.lookup f_law_frozen = some ⟨oc_law_frozen, od_law_frozen, .func (PySem.W.fnOf "_law_frozen" "_law_frozen" (defArgs s_law_frozen) (defBody s_law_frozen) (defScope s_law_frozen) .none kV_law_frozen dc_law_frozen pm_law_frozen an_law_frozen cd_law_frozen ct_law_frozen), sl_law_frozen⟩) (c1_law_frozen : PySem.W.codeIn K cd_law_frozen "_law_frozen" = true) (k1_law_frozen : PySem.W.keepIn K (.ref f_law_frozen) = true)
    (a1_law_bump : PySem.W.nsIn K mainGlobals "_law_bump" = some (some (.ref f_law_bump))) (l1_law_bump : K.lookup f_law_bump = some ⟨oc_law_bump, od_law_bump, .func (PySem.W.fnOf "_law_bump" "_law_bump" (defArgs s_law_bump) (defBody s_law_bump) (defScope s_law_bump) .none kV_law_bump dc_law_bump pm_law_bump an_law_bump cd_law_bump ct_law_bump), sl_law_bump⟩) (c1_law_bump : PySem.W.codeIn K cd_law_bump "_law_bump" = true) (k1_law_bump : PySem.W.keepIn K (.ref f_law_bump) = true)
    (a1_law_pair : PySem.W.nsIn K mainGlobals "_law_pair" = some (some (.ref f_law_pair))) (l1_law_pair : K.lookup f_law_pair = some ⟨oc_law_pair, od_law_pair, .func (PySem.W.fnOf "_law_pair" "_law_pair" (defArgs s_law_pair) (defBody s_law_pair) (defScope s_law_pair) .none kV_law_pair dc_law_pair pm_law_pair an_law_pair cd_law_pair ct_law_pair), sl_law_pair⟩) (c1_law_pair : PySem.W.codeIn K cd_law_pair "_law_pair" = true) (k1_law_pair : PySem.W.keepIn K (.ref f_law_pair) = true)
    (a1_law_heap : PySem.W.nsIn K mainGlobals "_law_heap" = some (some (.ref f_law_heap))) (l1_law_heap : K.lookup f_law_heap = some ⟨oc_law_heap, od_law_heap, .func (PySem.W.fnOf "_law_heap" "_law_heap" (defArgs s_law_heap) (defBody s_law_heap) (defScope s_law_heap) .none kV_law_heap dc_law_heap pm_law_heap an_law_heap cd_law_heap ct_law_heap), sl_law_heap⟩) (c1_law_heap : PySem.W.codeIn K cd_law_heap "_law_heap" = true) (k1_law_heap : PySem.W.keepIn K (.ref f_law_heap) = true)
    (a1_law_letters : PySem.W.nsIn K mainGlobals "_law_letters" = some (some (.ref f_law_letters))) (l1_law_letters : K.lookup f_law_letters = some ⟨oc_law_letters, od_law_letters, .func (PySem.W.fnOf "_law_letters" "_law_letters" (defArgs s_law_letters) (defBody s_law_letters) (defScope s_law_letters) .none kV_law_letters dc_law_letters pm_law_letters an_law_letters cd_law_letters ct_law_letters), sl_law_letters⟩) (c1_law_letters : PySem.W.codeIn K cd_law_letters "_law_letters" = true) (k1_law_letters : PySem.W.keepIn K (.ref f_law_letters) = true)
    (a1_law_heap_word : PySem.W.nsIn K mainGlobals "_law_heap_word" = some (some (.ref f_law_heap_word))) (l1_law_heap_word : K.lookup f_law_heap_word = some ⟨oc_law_heap_word, od_law_heap_word, .func (PySem.W.fnOf "_law_heap_word" "_law_heap_word" (defArgs s_law_heap_word) (defBody s_law_heap_word) (defScope s_law_heap_word) .none kV_law_heap_word dc_law_heap_word pm_law_heap_word an_law_heap_word cd_law_heap_word ct_law_heap_word), sl_law_heap_word⟩) (c1_law_heap_word : PySem.W.codeIn K cd_law_heap_word "_law_heap_word" = true) (k1_law_heap_word : PySem.W.keepIn K (.ref f_law_heap_word) = true)
    (a1_law_refuses : PySem.W.nsIn K mainGlobals "_law_refuses" = some (some (.ref f_law_refuses))) (l1_law_refuses : K.lookup f_law_refuses = some ⟨oc_law_refuses, od_law_refuses, .func (PySem.W.fnOf "_law_refuses" "_law_refuses" (defArgs s_law_refuses) (defBody s_law_refuses) (defScope s_law_refuses) .none kV_law_refuses dc_law_refuses pm_law_refuses an_law_refuses cd_law_refuses ct_law_refuses), sl_law_refuses⟩) (c1_law_refuses : PySem.W.codeIn K cd_law_refuses "_law_refuses" = true) (k1_law_refuses : PySem.W.keepIn K (.ref f_law_refuses) = true)
    (a1_law_all_heaps : PySem.W.nsIn K mainGlobals "_law_all_heaps" = some (some (.ref f_law_all_heaps))) (l1_law_all_heaps : K.lookup f_law_all_heaps = some ⟨oc_law_all_heaps, od_law_all_heaps, .func (PySem.W.fnOf "_law_all_heaps" "_law_all_heaps" (defArgs s_law_all_heaps) (defBody s_law_all_heaps) (defScope s_law_all_heaps) .none kV_law_all_heaps dc_law_all_heaps pm_law_all_heaps an_law_all_heaps cd_law_all_heaps ct_law_all_heaps), sl_law_all_heaps⟩) (c1_law_all_heaps : PySem.W.codeIn K cd_law_all_heaps "_law_all_heaps" = true) (k1_law_all_heaps : PySem.W.keepIn K (.ref f_law_all_heaps) = true)
    (a1_law_heap_of : PySem.W.nsIn K mainGlobals "_law_heap_of" = some (some (.ref f_law_heap_of))) (l1_law_heap_of : K.lookup f_law_heap_of = some ⟨oc_law_heap_of, od_law_heap_of, .func (PySem.W.fnOf "_law_heap_of" "_law_heap_of" (defArgs s_law_heap_of) (defBody s_law_heap_of) (defScope s_law_heap_of) .none kV_law_heap_of dc_law_heap_of pm_law_heap_of an_law_heap_of cd_law_heap_of ct_law_heap_of), sl_law_heap_of⟩) (c1_law_heap_of : PySem.W.codeIn K cd_law_heap_of "_law_heap_of" = true) (k1_law_heap_of : PySem.W.keepIn K (.ref f_law_heap_of) = true)
    (a1_law_content : PySem.W.nsIn K mainGlobals "_law_content" = some (some (.ref f_law_content))) (l1_law_content : K.lookup f_law_content = some ⟨oc_law_content, od_law_content, .func (PySem.W.fnOf "_law_content" "_law_content" (defArgs s_law_content) (defBody s_law_content) (defScope s_law_content) .none kV_law_content dc_law_content pm_law_content an_law_content cd_law_content ct_law_content), sl_law_content⟩) (c1_law_content : PySem.W.codeIn K cd_law_content "_law_content" = true) (k1_law_content : PySem.W.keepIn K (.ref f_law_content) = true)
    (a1_law_walked : PySem.W.nsIn K mainGlobals "_law_walked" = some (some (.ref f_law_walked))) (l1_law_walked : K.lookup f_law_walked = some ⟨oc_law_walked, od_law_walked, .func (PySem.W.fnOf "_law_walked" "_law_walked" (defArgs s_law_walked) (defBody s_law_walked) (defScope s_law_walked) .none kV_law_walked dc_law_walked pm_law_walked an_law_walked cd_law_walked ct_law_walked), sl_law_walked⟩) (c1_law_walked : PySem.W.codeIn K cd_law_walked "_law_walked" = true) (k1_law_walked : PySem.W.keepIn K (.ref f_law_walked) = true)
    (a1_law : PySem.W.nsIn K mainGlobals "law" = some (some (.ref f_law))) (l1_law : K.lookup f_law = some ⟨oc_law, od_law, .func (PySem.W.fnOf "law" "law" (defArgs s_law) (defBody s_law) (defScope s_law) .none kV_law dc_law pm_law an_law cd_law ct_law), sl_law⟩) (c1_law : PySem.W.codeIn K cd_law "law" = true) (k1_law : PySem.W.keepIn K (.ref f_law) = true)
    (z1_abs : PySem.W.nsIn K mainGlobals "abs" = some none)
    (z1_bool : PySem.W.nsIn K mainGlobals "bool" = some none)
    (z1_int : PySem.W.nsIn K mainGlobals "int" = some none)
    (z1_isinstance : PySem.W.nsIn K mainGlobals "isinstance" = some none)
    (z1_len : PySem.W.nsIn K mainGlobals "len" = some none)
    (z1_list : PySem.W.nsIn K mainGlobals "list" = some none)
    (z1_max : PySem.W.nsIn K mainGlobals "max" = some none)
    (z1_min : PySem.W.nsIn K mainGlobals "min" = some none)
    (z1_range : PySem.W.nsIn K mainGlobals "range" = some none)
    (z1_str : PySem.W.nsIn K mainGlobals "str" = some none)
    (z1_sum : PySem.W.nsIn K mainGlobals "sum" = some none)
    (z1_tuple : PySem.W.nsIn K mainGlobals "tuple" = some none)
    (c2_MOST_COLOUR : PySem.W.nsIn K mainGlobals "MOST_COLOUR" = some (some (.int 3 t_MOST_COLOUR)))
    (c2_MOST_LENGTH : PySem.W.nsIn K mainGlobals "MOST_LENGTH" = some (some (.int 12 t_MOST_LENGTH)))
    (c2_MOST_LETTER : PySem.W.nsIn K mainGlobals "MOST_LETTER" = some (some (.int 6 t_MOST_LETTER)))
    (c2_MOST_ROOM : PySem.W.nsIn K mainGlobals "MOST_ROOM" = some (some (.int 8 t_MOST_ROOM)))
    (e1_Malformed : PySem.W.nsIn K mainGlobals "Malformed" = some (some (.ref C_Malformed))) (e2_Malformed : PySem.W.excIn K C_Malformed [.type "ValueError", .type "Exception", .type "BaseException", .type "object"] "ValueError.__new__" = true) (e3_Malformed : PySem.W.keepIn K (.ref C_Malformed) = true) (e4_Malformed : PySem.W.subIn K (.ref C_Malformed) (.type "BaseException") = some true) (e5_Malformed : PySem.W.typeIn K (.ref C_Malformed) = some (.type "type"))
    (e6_Malformed : PySem.W.isClsIn K C_Malformed = true) (e7_Malformed : PySem.W.subIn K (.ref C_Malformed) (.ref C_Malformed) = some true) : Txt P K mg where
  a_is_integer := f_is_integer
  d_is_integer := _
  F_is_integer := fun_mk (st := s_is_integer) l1_is_integer c1_is_integer k1_is_integer
  b_is_integer := (fun_mk (st := s_is_integer) l1_is_integer c1_is_integer k1_is_integer).binds (ps := ["value"]) fun _ _ _ _ _ _ us hl => match us, hl with | [_], _ => rfl
  m_is_integer := PySem.W.mg_of X G a1_is_integer
  a_counted := f_counted
  d_counted := _
  F_counted := fun_mk (st := s_counted) l1_counted c1_counted k1_counted
  b_counted := (fun_mk (st := s_counted) l1_counted c1_counted k1_counted).binds (ps := ["letters", "n"]) fun _ _ _ _ _ _ us hl => match us, hl with | [_, _], _ => rfl
  m_counted := PySem.W.mg_of X G a1_counted
  a_has_rows := f_has_rows
  d_has_rows := _
  F_has_rows := fun_mk (st := s_has_rows) l1_has_rows c1_has_rows k1_has_rows
  b_has_rows := (fun_mk (st := s_has_rows) l1_has_rows c1_has_rows k1_has_rows).binds (ps := ["value"]) fun _ _ _ _ _ _ us hl => match us, hl with | [_], _ => rfl
  m_has_rows := PySem.W.mg_of X G a1_has_rows
  a_ascends := f_ascends
  d_ascends := _
  F_ascends := fun_mk (st := s_ascends) l1_ascends c1_ascends k1_ascends
  b_ascends := (fun_mk (st := s_ascends) l1_ascends c1_ascends k1_ascends).binds (ps := ["rows"]) fun _ _ _ _ _ _ us hl => match us, hl with | [_], _ => rfl
  m_ascends := PySem.W.mg_of X G a1_ascends
  a_is_tableau := f_is_tableau
  d_is_tableau := _
  F_is_tableau := fun_mk (st := s_is_tableau) l1_is_tableau c1_is_tableau k1_is_tableau
  b_is_tableau := (fun_mk (st := s_is_tableau) l1_is_tableau c1_is_tableau k1_is_tableau).binds (ps := ["value"]) fun _ _ _ _ _ _ us hl => match us, hl with | [_], _ => rfl
  m_is_tableau := PySem.W.mg_of X G a1_is_tableau
  a_shape_of := f_shape_of
  d_shape_of := _
  F_shape_of := fun_mk (st := s_shape_of) l1_shape_of c1_shape_of k1_shape_of
  b_shape_of := (fun_mk (st := s_shape_of) l1_shape_of c1_shape_of k1_shape_of).binds (ps := ["rows"]) fun _ _ _ _ _ _ us hl => match us, hl with | [_], _ => rfl
  m_shape_of := PySem.W.mg_of X G a1_shape_of
  a_without_box := f_without_box
  d_without_box := _
  F_without_box := fun_mk (st := s_without_box) l1_without_box c1_without_box k1_without_box
  b_without_box := (fun_mk (st := s_without_box) l1_without_box c1_without_box k1_without_box).binds (ps := ["rows", "i"]) fun _ _ _ _ _ _ us hl => match us, hl with | [_, _], _ => rfl
  m_without_box := PySem.W.mg_of X G a1_without_box
  a_taken := f_taken
  d_taken := _
  F_taken := fun_mk (st := s_taken) l1_taken c1_taken k1_taken
  b_taken := (fun_mk (st := s_taken) l1_taken c1_taken k1_taken).binds (ps := ["rows", "i"]) fun _ _ _ _ _ _ us hl => match us, hl with | [_, _], _ => rfl
  m_taken := PySem.W.mg_of X G a1_taken
  a_pair_of_heaps := f_pair_of_heaps
  d_pair_of_heaps := _
  F_pair_of_heaps := fun_mk (st := s_pair_of_heaps) l1_pair_of_heaps c1_pair_of_heaps k1_pair_of_heaps
  b_pair_of_heaps := (fun_mk (st := s_pair_of_heaps) l1_pair_of_heaps c1_pair_of_heaps k1_pair_of_heaps).binds (ps := ["p", "a", "b", "n"]) fun _ _ _ _ _ _ us hl => match us, hl with | [_, _, _, _], _ => rfl
  m_pair_of_heaps := PySem.W.mg_of X G a1_pair_of_heaps
  a_law_state := f_law_state
  d_law_state := _
  F_law_state := fun_mk (st := s_law_state) l1_law_state c1_law_state k1_law_state
  b_law_state := (fun_mk (st := s_law_state) l1_law_state c1_law_state k1_law_state).binds (ps := ["script"]) fun _ _ _ _ _ _ us hl => match us, hl with | [_], _ => rfl
  m_law_state := PySem.W.mg_of X G a1_law_state
  a_law_take := f_law_take
  d_law_take := _
  F_law_take := fun_mk (st := s_law_take) l1_law_take c1_law_take k1_law_take
  b_law_take := (fun_mk (st := s_law_take) l1_law_take c1_law_take k1_law_take).binds (ps := ["state", "m"]) fun _ _ _ _ _ _ us hl => match us, hl with | [_, _], _ => rfl
  m_law_take := PySem.W.mg_of X G a1_law_take
  a_law_plain := f_law_plain
  d_law_plain := _
  F_law_plain := fun_mk (st := s_law_plain) l1_law_plain c1_law_plain k1_law_plain
  b_law_plain := (fun_mk (st := s_law_plain) l1_law_plain c1_law_plain k1_law_plain).binds (ps := ["value"]) fun _ _ _ _ _ _ us hl => match us, hl with | [_], _ => rfl
  m_law_plain := PySem.W.mg_of X G a1_law_plain
  a_law_word := f_law_word
  d_law_word := _
  F_law_word := fun_mk (st := s_law_word) l1_law_word c1_law_word k1_law_word
  b_law_word := (fun_mk (st := s_law_word) l1_law_word c1_law_word k1_law_word).binds (ps := ["state", "most", "letters"]) fun _ _ _ _ _ _ us hl => match us, hl with | [_, _, _], _ => rfl
  m_law_word := PySem.W.mg_of X G a1_law_word
  a_law_frozen := f_law_frozen
  d_law_frozen := _
  F_law_frozen := fun_mk (st := s_law_frozen) l1_law_frozen c1_law_frozen k1_law_frozen
  b_law_frozen := (fun_mk (st := s_law_frozen) l1_law_frozen c1_law_frozen k1_law_frozen).binds (ps := ["rows"]) fun _ _ _ _ _ _ us hl => match us, hl with | [_], _ => rfl
  m_law_frozen := PySem.W.mg_of X G a1_law_frozen
  a_law_bump := f_law_bump
  d_law_bump := _
  F_law_bump := fun_mk (st := s_law_bump) l1_law_bump c1_law_bump k1_law_bump
  b_law_bump := (fun_mk (st := s_law_bump) l1_law_bump c1_law_bump k1_law_bump).binds (ps := ["rows", "x"]) fun _ _ _ _ _ _ us hl => match us, hl with | [_, _], _ => rfl
  m_law_bump := PySem.W.mg_of X G a1_law_bump
  a_law_pair := f_law_pair
  d_law_pair := _
  F_law_pair := fun_mk (st := s_law_pair) l1_law_pair c1_law_pair k1_law_pair
  b_law_pair := (fun_mk (st := s_law_pair) l1_law_pair c1_law_pair k1_law_pair).binds (ps := ["word"]) fun _ _ _ _ _ _ us hl => match us, hl with | [_], _ => rfl
  m_law_pair := PySem.W.mg_of X G a1_law_pair
  a_law_heap := f_law_heap
  d_law_heap := _
  F_law_heap := fun_mk (st := s_law_heap) l1_law_heap c1_law_heap k1_law_heap
  b_law_heap := (fun_mk (st := s_law_heap) l1_law_heap c1_law_heap k1_law_heap).binds (ps := ["state", "n", "most"]) fun _ _ _ _ _ _ us hl => match us, hl with | [_, _, _], _ => rfl
  m_law_heap := PySem.W.mg_of X G a1_law_heap
  a_law_letters := f_law_letters
  d_law_letters := _
  F_law_letters := fun_mk (st := s_law_letters) l1_law_letters c1_law_letters k1_law_letters
  b_law_letters := (fun_mk (st := s_law_letters) l1_law_letters c1_law_letters k1_law_letters).binds (ps := ["x"]) fun _ _ _ _ _ _ us hl => match us, hl with | [_], _ => rfl
  m_law_letters := PySem.W.mg_of X G a1_law_letters
  a_law_heap_word := f_law_heap_word
  d_law_heap_word := _
  F_law_heap_word := fun_mk (st := s_law_heap_word) l1_law_heap_word c1_law_heap_word k1_law_heap_word
  b_law_heap_word := (fun_mk (st := s_law_heap_word) l1_law_heap_word c1_law_heap_word k1_law_heap_word).binds (ps := ["heaps"]) fun _ _ _ _ _ _ us hl => match us, hl with | [_], _ => rfl
  m_law_heap_word := PySem.W.mg_of X G a1_law_heap_word
  a_law_refuses := f_law_refuses
  d_law_refuses := _
  F_law_refuses := fun_mk (st := s_law_refuses) l1_law_refuses c1_law_refuses k1_law_refuses
  b_law_refuses := (fun_mk (st := s_law_refuses) l1_law_refuses c1_law_refuses k1_law_refuses).binds (ps := ["p", "a", "b", "n"]) fun _ _ _ _ _ _ us hl => match us, hl with | [_, _, _, _], _ => rfl
  m_law_refuses := PySem.W.mg_of X G a1_law_refuses
  a_law_all_heaps := f_law_all_heaps
  d_law_all_heaps := _
  F_law_all_heaps := fun_mk (st := s_law_all_heaps) l1_law_all_heaps c1_law_all_heaps k1_law_all_heaps
  b_law_all_heaps := (fun_mk (st := s_law_all_heaps) l1_law_all_heaps c1_law_all_heaps k1_law_all_heaps).binds (ps := ["size", "n"]) fun _ _ _ _ _ _ us hl => match us, hl with | [_, _], _ => rfl
  m_law_all_heaps := PySem.W.mg_of X G a1_law_all_heaps
  a_law_heap_of := f_law_heap_of
  d_law_heap_of := _
  F_law_heap_of := fun_mk (st := s_law_heap_of) l1_law_heap_of c1_law_heap_of k1_law_heap_of
  b_law_heap_of := (fun_mk (st := s_law_heap_of) l1_law_heap_of c1_law_heap_of k1_law_heap_of).binds (ps := ["letters", "n"]) fun _ _ _ _ _ _ us hl => match us, hl with | [_, _], _ => rfl
  m_law_heap_of := PySem.W.mg_of X G a1_law_heap_of
  a_law_content := f_law_content
  d_law_content := _
  F_law_content := fun_mk (st := s_law_content) l1_law_content c1_law_content k1_law_content
  b_law_content := (fun_mk (st := s_law_content) l1_law_content c1_law_content k1_law_content).binds (ps := ["p", "n"]) fun _ _ _ _ _ _ us hl => match us, hl with | [_, _], _ => rfl
  m_law_content := PySem.W.mg_of X G a1_law_content
  a_law_walked := f_law_walked
  d_law_walked := _
  F_law_walked := fun_mk (st := s_law_walked) l1_law_walked c1_law_walked k1_law_walked
  b_law_walked := (fun_mk (st := s_law_walked) l1_law_walked c1_law_walked k1_law_walked).binds (ps := ["p", "a", "b", "n"]) fun _ _ _ _ _ _ us hl => match us, hl with | [_, _, _, _], _ => rfl
  m_law_walked := PySem.W.mg_of X G a1_law_walked
  a_law := f_law
  d_law := _
  F_law := fun_mk (st := s_law) l1_law c1_law k1_law
  b_law := (fun_mk (st := s_law) l1_law c1_law k1_law).binds (ps := ["script"]) fun _ _ _ _ _ _ us hl => match us, hl with | [_], _ => rfl
  m_law := PySem.W.mg_of X G a1_law
  z_abs := PySem.W.mg_none_of X G z1_abs
  z_bool := PySem.W.mg_none_of X G z1_bool
  z_int := PySem.W.mg_none_of X G z1_int
  z_isinstance := PySem.W.mg_none_of X G z1_isinstance
  z_len := PySem.W.mg_none_of X G z1_len
  z_list := PySem.W.mg_none_of X G z1_list
  z_max := PySem.W.mg_none_of X G z1_max
  z_min := PySem.W.mg_none_of X G z1_min
  z_range := PySem.W.mg_none_of X G z1_range
  z_str := PySem.W.mg_none_of X G z1_str
  z_sum := PySem.W.mg_none_of X G z1_sum
  z_tuple := PySem.W.mg_none_of X G z1_tuple
  t_MOST_COLOUR := _
  c_MOST_COLOUR := PySem.W.mg_of X G c2_MOST_COLOUR
  t_MOST_LENGTH := _
  c_MOST_LENGTH := PySem.W.mg_of X G c2_MOST_LENGTH
  t_MOST_LETTER := _
  c_MOST_LETTER := PySem.W.mg_of X G c2_MOST_LETTER
  t_MOST_ROOM := _
  c_MOST_ROOM := PySem.W.mg_of X G c2_MOST_ROOM
  a_Malformed := C_Malformed
  m_Malformed := PySem.W.mg_of X G e1_Malformed
  x_Malformed := e2_Malformed
  k_Malformed := e3_Malformed
  xb_Malformed := e4_Malformed
  xt_Malformed := e5_Malformed
  sub_Malformed := fun n b cls hs hm => sub_ok e6_Malformed e5_Malformed e4_Malformed e7_Malformed (PySem.W.mg_of X G e1_Malformed) hs hm
end DL
namespace DL
open PySem L2
/-! ### the draw, alike for every law -/
theorem state_loop (D : DV) : ∀ (ms : List Int) (s t : Int) (x : Option DV), ∃ s' t' x', forGo ckT (.nm 3) L0_law_state (dit (ms.map PV.int)) [some D, some (.p (.int s)), some (.p (.int t)), x] [] = .nx [some D, some (.p (.int s')), some (.p (.int t')), x'] []
  | [], s, t, x => ⟨s, t, x, for_nil⟩
  | m :: ms, s, t, x => by
    obtain ⟨s', t', x', e⟩ := state_loop D ms (s * 1000003 + (if m < 0 then -m else m)) ((t * 48271 + m) % 2147483647) (some (.p (.int m)))
    refine ⟨s', t', x', ?_⟩
    have m1 : ∀ (i : Int) (S : AH), mulO1 (.p (.int i)) (.p (.int 48271)) S = some (.p (.int (i * 48271)), S) := fun i S => mulO1_int (mulOk_r (by decide))
    have m2 : ∀ (i : Int) (S : AH), mulO1 (.p (.int i)) (.p (.int 1000003)) S = some (.p (.int (i * 1000003)), S) := fun i S => mulO1_int (mulOk_r (by decide))
    have mb : ∀ (i : Int) (S : AH), modO (.p (.int i)) (.p (.int 2147483647)) S = some (.p (.int (i % 2147483647)), S) := fun i S => modO_int (by decide)
    rw [List.map_cons, dit_cons, for_nm, ← e]
    simp [L0_law_state, m1, m2, mb]
theorem state_ok (ns : List Int) : ∃ a b : Int, d_law_state [.p (.fro (ns.map PV.int))] [] = .ok (.c 0) [.lst [.int a, .int b]] := by
  obtain ⟨s', t', x', e⟩ := state_loop (.p (.fro (ns.map PV.int))) (cutL ns none (some 63)) 0 1 none
  refine ⟨s', t', ?_⟩
  rw [← cutL_map] at e
  simp [d_law_state, b_law_state_, e]
  exact gc_cell (by simp) (Nat.zero_le _) rfl
def tkV (a b m : Int) : Int := if 0 < a then a % m else (b * 48271 + 11) % 2147483647 / 7 % m
def tkA (a m : Int) : Int := if 0 < a then a / m else a
def tkB (a b : Int) : Int := if 0 < a then b else (b * 48271 + 11) % 2147483647
theorem tkV_bd {a b m : Int} (h : 0 < m) : 0 ≤ tkV a b m ∧ tkV a b m < m := by
  unfold tkV
  split
  · exact ⟨Int.emod_nonneg _ (by omega), Int.emod_lt_of_pos _ h⟩
  · exact ⟨Int.emod_nonneg _ (by omega), Int.emod_lt_of_pos _ h⟩
theorem ixO_c0 {i : Int} {xs : List PV} {x : PV} {R : AH} (e : atI xs i = some x) : ixO (.c 0) (.p (.int i)) (.lst xs :: R) = some (.p x, .lst xs :: R) := ixO_c rfl e
theorem take_ok0 (a b m : Int) (R : AH) (h0 : 0 < m) (hm : divOk m) : d_law_take [.c 0, .p (.int m)] (.lst [.int a, .int b] :: R) = .ok (.p (.int (tkV a b m))) (.lst [.int (tkA a m), .int (tkB a b)] :: R) := by
  have e0 : ∀ (x y : PV) (R : AH), ixO (.c 0) (.p (.int 0)) (.lst [x, y] :: R) = some (.p x, .lst [x, y] :: R) := fun x y R => ixO_c0 rfl
  have e1 : ∀ (x y : PV) (R : AH), ixO (.c 0) (.p (.int 1)) (.lst [x, y] :: R) = some (.p y, .lst [x, y] :: R) := fun x y R => ixO_c0 rfl
  have s0 : ∀ (x y z : PV) (R : AH), setIx (.c 0) (.p (.int 0)) (.p z) (.lst [x, y] :: R) = some (.lst [z, y] :: R) := fun x y z R => rfl
  have s1 : ∀ (x y z : PV) (R : AH), setIx (.c 0) (.p (.int 1)) (.p z) (.lst [x, y] :: R) = some (.lst [x, z] :: R) := fun x y z R => rfl
  have j0 : ∀ (δ : Sig) (x y z : PV) (R : AH), jSub3 (.c 0) (.p z) (.p (.int 0)) δ (.lst [x, y] :: R) = .nx δ (.lst [z, y] :: R) := fun δ x y z R => ev_jSub3 (s0 x y z R)
  have j1 : ∀ (δ : Sig) (x y z : PV) (R : AH), jSub3 (.c 0) (.p z) (.p (.int 1)) δ (.lst [x, y] :: R) = .nx δ (.lst [x, z] :: R) := fun δ x y z R => ev_jSub3 (s1 x y z R)
  have m1 : ∀ (i : Int) (S : AH), mulO1 (.p (.int i)) (.p (.int 48271)) S = some (.p (.int (i * 48271)), S) := fun i S => mulO1_int (mulOk_r (by decide))
  have d7 : ∀ (i : Int) (S : AH), divO (.p (.int i)) (.p (.int 7)) S = some (.p (.int (i / 7)), S) := fun i S => divO_int (divOk_of (by decide) (by decide))
  have mb : ∀ (i : Int) (S : AH), modO (.p (.int i)) (.p (.int 2147483647)) S = some (.p (.int (i % 2147483647)), S) := fun i S => modO_int (by decide)
  have mm : ∀ (i : Int) (S : AH), modO (.p (.int i)) (.p (.int m)) S = some (.p (.int (i % m)), S) := fun i S => modO_int h0
  have dm : ∀ (i : Int) (S : AH), divO (.p (.int i)) (.p (.int m)) S = some (.p (.int (i / m)), S) := fun i S => divO_int hm
  by_cases h : 0 < a
  · simp [d_law_take, b_law_take_, e0, e1, j0, j1, m1, d7, mb, mm, dm, h, tkV, tkA, tkB]
  · simp [d_law_take, b_law_take_, e0, e1, j0, j1, m1, d7, mb, mm, dm, h, tkV, tkA, tkB]
/-- a cell of two numbers: the draw's state -/
def St2 (c : Cell) : Prop := ∃ a b : Int, c = .lst [.int a, .int b]
/-- a take: some number below the bound -/
theorem take_ok {c : Cell} (h : St2 c) {m : Int} (R : AH) (h0 : 0 < m) (h1 : m < 2 ^ 64) : ∃ v c', St2 c' ∧ (0 ≤ v ∧ v < m) ∧ d_law_take [.c 0, .p (.int m)] (c :: R) = .ok (.p (.int v)) (c' :: R) := by
  obtain ⟨a, b, rfl⟩ := h
  exact ⟨_, _, ⟨_, _, rfl⟩, tkV_bd h0, take_ok0 a b m R h0 (divOk_of h0 h1)⟩
end DL
namespace DL
open PySem L2
/-! ### bumping, as a plain function (no program in sight but for the layer's values) -/
def rowAt (rows : List (List Int)) (i : Nat) : List Int := rows.getD i []
def itAt (r : List Int) (j : Nat) : Int := r.getD j 0
theorem it_get {r : List Int} {k : Nat} (hk : k < r.length) : itAt r k = r[k] := by
  unfold itAt; simp [hk]
def tabV (rows : List (List Int)) : List PV := rows.map tupI
@[simp] theorem tabV_len (rows : List (List Int)) : (tabV rows).length = rows.length := List.length_map _
theorem tab_ix {rows : List (List Int)} {i : Nat} (h : i < rows.length) (S : AH) : ixO (.p (.tup (tabV rows))) (.p (.int (i : Int))) S = some (.p (tupI (rowAt rows i)), S) := by
  refine ixO_tup (atI_map tupI (atI_nat ?_))
  unfold rowAt
  simp [h]
theorem row_ix {r : List Int} {j : Nat} (h : j < r.length) (S : AH) : ixO (.p (.tup (r.map PV.int))) (.p (.int (j : Int))) S = some (.p (.int (itAt r j)), S) := by
  refine ixO_tup (atI_map PV.int (atI_nat ?_))
  rw [it_get h, List.getElem?_eq_getElem h]
/-- the indexes of the greater ones -/
def gts (x : Int) (r : List Int) : List Nat := (List.range r.length).filter fun j => decide (x < itAt r j)
theorem gts_mem {x : Int} {r : List Int} {j : Nat} : j ∈ gts x r ↔ j < r.length ∧ x < itAt r j := by
  unfold gts
  rw [List.mem_filter, List.mem_range, decide_eq_true_iff]
def bumpL : List (List Int) → Int → List (List Int) × Nat
  | [], x => ([[x]], 0)
  | r :: rs, x => match gts x r with
    | [] => ((r ++ [x]) :: rs, 0)
    | k :: _ => (r.set k x :: (bumpL rs (itAt r k)).1, (bumpL rs (itAt r k)).2 + 1)
theorem bumpL_stop {r : List Int} {rs : List (List Int)} {x : Int} (h : gts x r = []) : bumpL (r :: rs) x = ((r ++ [x]) :: rs, 0) := by
  rw [bumpL, h]
theorem bumpL_on {r : List Int} {rs : List (List Int)} {x : Int} {k : Nat} {t : List Nat} (h : gts x r = k :: t) : bumpL (r :: rs) x = (r.set k x :: (bumpL rs (itAt r k)).1, (bumpL rs (itAt r k)).2 + 1) := by
  rw [bumpL, h]
/-- rows that are not empty, of a length to N -/
def Good (N : Nat) (rs : List (List Int)) : Prop := ∀ r ∈ rs, 0 < r.length ∧ r.length ≤ N
theorem Good.set {N : Nat} {rs : List (List Int)} (h : Good N rs) {i : Nat} {r : List Int} (hr : 0 < r.length ∧ r.length ≤ N) : Good N (rs.set i r) := fun q hq => by
  rcases List.mem_or_eq_of_mem_set hq with w | rfl
  · exact h q w
  · exact hr
theorem Good.mono {N M : Nat} {rs : List (List Int)} (h : Good N rs) (w : N ≤ M) : Good M rs := fun q hq => ⟨(h q hq).1, Nat.le_trans (h q hq).2 w⟩
theorem rowAt_mem {rs : List (List Int)} {i : Nat} (hi : i < rs.length) : rowAt rs i ∈ rs := by
  unfold rowAt; rw [List.getD_eq_getElem?_getD, List.getElem?_eq_getElem hi]; exact List.getElem_mem hi
theorem Good.at {N : Nat} {rs : List (List Int)} (h : Good N rs) {i : Nat} (hi : i < rs.length) : 0 < (rowAt rs i).length ∧ (rowAt rs i).length ≤ N := h _ (rowAt_mem hi)
theorem Good.nil {N : Nat} : Good N [] := fun q hq => by cases hq
theorem Good.cons {N : Nat} {r : List Int} {rs : List (List Int)} (h1 : 0 < r.length ∧ r.length ≤ N) (h2 : Good N rs) : Good N (r :: rs) := fun q hq => by
  rcases List.mem_cons.mp hq with rfl | hq
  · exact h1
  · exact h2 q hq
theorem Good.tl {N : Nat} {r : List Int} {rs : List (List Int)} (h : Good N (r :: rs)) : Good N rs := fun q hq => h q (List.mem_cons_of_mem _ hq)
theorem bumpL_good {N : Nat} : ∀ {rs : List (List Int)} {x : Int}, Good N rs → Good (N + 1) (bumpL rs x).1
  | [], x, _ => by rw [bumpL]; exact .cons (by simp) .nil
  | r :: rs, x, h => by
    have h1 := h r List.mem_cons_self
    cases e : gts x r with
    | nil => rw [bumpL_stop e]; exact .cons (by simp; omega) (h.tl.mono (by omega))
    | cons k t => rw [bumpL_on e]; exact .cons (by simp; omega) (bumpL_good h.tl)
theorem bumpL_len : ∀ {rs : List (List Int)} {x : Int}, ((bumpL rs x).2 < rs.length ∧ (bumpL rs x).1.length = rs.length) ∨ ((bumpL rs x).2 = rs.length ∧ (bumpL rs x).1.length = rs.length + 1)
  | [], x => .inr ⟨rfl, rfl⟩
  | r :: rs, x => by
    cases e : gts x r with
    | nil => rw [bumpL_stop e]; exact .inl ⟨by simp, by simp⟩
    | cons k t =>
      rw [bumpL_on e]
      rcases bumpL_len (rs := rs) (x := itAt r k) with ⟨a, b⟩ | ⟨a, b⟩
      · exact .inl ⟨by simp; omega, by simp; omega⟩
      · exact .inr ⟨by simp; omega, by simp; omega⟩
/-- a number in a box more -/
def addBox (q : List (List Int)) (i : Nat) (v : Int) : List (List Int) := if i = q.length then q ++ [[v]] else q.set i (rowAt q i ++ [v])
/-- the pair of a word, inserted from the last letter -/
def pairL : List Int → List (List Int) × List (List Int)
  | [] => ([], [])
  | a :: w => ((bumpL (pairL w).1 a).1, addBox (pairL w).2 (bumpL (pairL w).1 a).2 ((w.length : Int) + 1))
theorem addBox_len {q : List (List Int)} {i : Nat} {v : Int} : (addBox q i v).length = if i = q.length then q.length + 1 else q.length := by
  unfold addBox
  split <;> simp
theorem pairL_len : ∀ w : List Int, (pairL w).2.length = (pairL w).1.length ∧ (pairL w).1.length ≤ w.length
  | [] => ⟨rfl, Nat.le_refl _⟩
  | a :: w => by
    obtain ⟨h1, h2⟩ := pairL_len w
    rw [pairL]
    simp only [addBox_len, List.length_cons]
    rcases bumpL_len (rs := (pairL w).1) (x := a) with ⟨a, b⟩ | ⟨a, b⟩
    · rw [if_neg (by omega)]; omega
    · rw [if_pos (by omega)]; omega
theorem addBox_good {N : Nat} {q : List (List Int)} {i : Nat} {v : Int} (h : Good N q) (hi : i ≤ q.length) : Good (N + 1) (addBox q i v) := by
  unfold addBox
  split
  · intro r hr
    rcases List.mem_append.mp hr with w | w
    · exact (h.mono (by omega)) r w
    · rcases List.mem_singleton.mp w with rfl
      simp
  · have := h.at (i := i) (by omega)
    exact (h.mono (by omega)).set (by simp; omega)
theorem pairL_good : ∀ w : List Int, Good w.length (pairL w).1 ∧ Good w.length (pairL w).2
  | [] => ⟨.nil, .nil⟩
  | a :: w => by
    obtain ⟨h1, h2⟩ := pairL_good w
    have l := pairL_len w
    refine ⟨bumpL_good h1, addBox_good h2 ?_⟩
    rcases bumpL_len (rs := (pairL w).1) (x := a) with ⟨a, b⟩ | ⟨a, b⟩ <;> omega
/-- rows of numbers as rows of values -/
def pr (rs : List (List Int)) : List (List PV) := rs.map fun r => r.map PV.int
@[simp] theorem pr_len (rs : List (List Int)) : (pr rs).length = rs.length := List.length_map _
theorem pr_at {rs : List (List Int)} {i : Nat} (h : i < rs.length) : (pr rs).getD i [] = (rowAt rs i).map PV.int := by
  unfold pr rowAt
  simp [h]
theorem pr_set (rs : List (List Int)) (i : Nat) (r : List Int) : (pr rs).set i (r.map PV.int) = pr (rs.set i r) := by
  unfold pr; rw [List.map_set]
theorem pr_app (rs : List (List Int)) (r : List Int) : pr rs ++ [r.map PV.int] = pr (rs ++ [r]) := by
  unfold pr; simp
def unl : PV → List PV
  | .lst xs => xs
  | _ => []
end DL
namespace DL
/-! ### a letter into a row, and the steps of Knuth -/
def ri : List Int → Int → List Int × List Int
  | [], x => ([x], [])
  | a :: r, x => if x < a then (x :: r, [a]) else (a :: (ri r x).1, (ri r x).2)
theorem ri_lt {a x : Int} (r : List Int) (h : x < a) : ri (a :: r) x = (x :: r, [a]) := by rw [ri, if_pos h]
theorem ri_ge {a x : Int} (r : List Int) (h : ¬ x < a) : ri (a :: r) x = (a :: (ri r x).1, (ri r x).2) := by rw [ri, if_neg h]
/-- the letters of a word into a row, the last one first -/
def rwd (r : List Int) : List Int → List Int × List Int
  | [] => (r, [])
  | a :: w => ((ri (rwd r w).1 a).1, (ri (rwd r w).1 a).2 ++ (rwd r w).2)
def Srt (r : List Int) : Prop := r.Pairwise (· ≤ ·)
theorem Srt.tl {a : Int} {r : List Int} (h : Srt (a :: r)) : Srt r := (List.pairwise_cons.mp h).2
theorem Srt.hd {a : Int} {r : List Int} (h : Srt (a :: r)) : ∀ b ∈ r, a ≤ b := (List.pairwise_cons.mp h).1
theorem ri_mem {x : Int} : ∀ {r : List Int} {b : Int}, b ∈ (ri r x).1 → b = x ∨ b ∈ r
  | [], b, h => by simp [ri] at h; exact .inl h
  | a :: r, b, h => by
    by_cases c : x < a
    · rw [ri_lt r c] at h
      rcases List.mem_cons.mp h with h | h
      · exact .inl h
      · exact .inr (List.mem_cons_of_mem _ h)
    · rw [ri_ge r c] at h
      rcases List.mem_cons.mp h with h | h
      · exact .inr (by rw [h]; exact List.mem_cons_self)
      · rcases ri_mem h with h | h
        · exact .inl h
        · exact .inr (List.mem_cons_of_mem _ h)
theorem ri_srt {x : Int} : ∀ {r : List Int}, Srt r → Srt (ri r x).1
  | [], _ => by simp [ri, Srt]
  | a :: r, h => by
    by_cases c : x < a
    · rw [ri_lt r c]
      exact List.pairwise_cons.mpr ⟨fun b hb => by have := h.hd b hb; omega, h.tl⟩
    · rw [ri_ge r c]
      refine List.pairwise_cons.mpr ⟨fun b hb => ?_, ri_srt h.tl⟩
      rcases ri_mem hb with rfl | hb
      · omega
      · exact h.hd b hb
theorem ri_out {x : Int} : ∀ {r : List Int}, (ri r x).2 = [] ∨ ∃ b, (ri r x).2 = [b] ∧ b ∈ r ∧ x < b
  | [] => .inl rfl
  | a :: r => by
    by_cases c : x < a
    · rw [ri_lt r c]
      exact .inr ⟨a, rfl, List.mem_cons_self, c⟩
    · rw [ri_ge r c]
      rcases ri_out (x := x) (r := r) with h | ⟨b, h1, h2, h3⟩
      · exact .inl h
      · exact .inr ⟨b, h1, List.mem_cons_of_mem _ h2, h3⟩
/-- a greater letter lets something out -/
theorem ri_some {x : Int} : ∀ {r : List Int} {b : Int}, b ∈ r → x < b → ∃ c, (ri r x).2 = [c]
  | a :: r, b, hb, h => by
    by_cases c : x < a
    · rw [ri_lt r c]; exact ⟨a, rfl⟩
    · rw [ri_ge r c]
      rcases List.mem_cons.mp hb with rfl | hb
      · exact absurd h c
      · exact ri_some hb h
theorem ri_in {x : Int} : ∀ {r : List Int}, x ∈ (ri r x).1
  | [] => by simp [ri]
  | a :: r => by
    by_cases c : x < a
    · rw [ri_lt r c]; exact List.mem_cons_self
    · rw [ri_ge r c]; exact List.mem_cons_of_mem _ ri_in
/-- what comes out is the least one that is greater -/
theorem ri_least {x : Int} : ∀ {r : List Int} {c b : Int}, Srt r → (ri r x).2 = [c] → b ∈ r → x < b → c ≤ b
  | a :: r, c, b, hs, h, hb, hx => by
    by_cases q : x < a
    · rw [ri_lt r q] at h
      obtain rfl : a = c := by simpa using h
      rcases List.mem_cons.mp hb with rfl | hb
      · exact Int.le_refl _
      · exact hs.hd b hb
    · rw [ri_ge r q] at h
      rcases List.mem_cons.mp hb with rfl | hb
      · exact absurd hx q
      · exact ri_least hs.tl h hb hx
/-! three letters -/
inductive Kt : List Int → List Int → Prop
  | a {x y z : Int} : x ≤ y → y < z → Kt [y, z, x] [y, x, z]
  | b {x y z : Int} : x < y → y ≤ z → Kt [z, x, y] [x, z, y]
def KO (u v : List Int) : Prop := u = v ∨ Kt u v ∨ Kt v u
theorem rwd3 (r : List Int) (p q s : Int) : rwd r [p, q, s] = ((ri (ri (ri r s).1 q).1 p).1, (ri (ri (ri r s).1 q).1 p).2 ++ ((ri (ri r s).1 q).2 ++ (ri r s).2)) := by
  simp [rwd]
/-- y behind z, into a row with no letter up to y ahead: both come out, or none of z -/
theorem out_zy {r : List Int} {y z c : Int} (hs : Srt r) (h : y < z) (hz : (ri r z).2 = [c]) : ∃ d, (ri (ri r z).1 y).2 = [d] ∧ d ≤ z ∧ z < c := by
  obtain ⟨d, hd⟩ := ri_some (ri_in (x := z) (r := r)) h
  refine ⟨d, hd, ri_least (ri_srt hs) hd ri_in h, ?_⟩
  rcases ri_out (x := z) (r := r) with e | ⟨b, h1, h2, h3⟩
  · rw [e] at hz; simp at hz
  · rw [h1] at hz
    obtain rfl : b = c := by simpa using hz
    exact h3
/-- z behind y -/
theorem out_yz {y z : Int} : ∀ {r : List Int} {c : Int}, Srt r → y ≤ z → (ri (ri r y).1 z).2 = [c] → ∃ b, (ri r y).2 = [b] ∧ b ≤ c ∧ y < b
  | [], c, hs, h, e => by
    have : ¬ z < y := by omega
    simp [ri, this] at e
  | a :: r, c, hs, h, e => by
    by_cases q : y < a
    · rw [ri_lt r q] at e ⊢
      have : ¬ z < y := by omega
      rw [ri_ge r this] at e
      refine ⟨a, rfl, ?_, q⟩
      rcases ri_out (x := z) (r := r) with w | ⟨b, h1, h2, h3⟩
      · rw [w] at e; simp at e
      · rw [h1] at e
        obtain rfl : b = c := by simpa using e
        exact hs.hd b h2
    · rw [ri_ge r q] at e ⊢
      have : ¬ z < a := by omega
      rw [ri_ge _ this] at e
      exact out_yz hs.tl h e
theorem row_a {x y z : Int} (hx : x ≤ y) (hz : y < z) : ∀ {r : List Int}, Srt r → (rwd r [y, z, x]).1 = (rwd r [y, x, z]).1 ∧ KO (rwd r [y, z, x]).2 (rwd r [y, x, z]).2
  | [], _ => by
    have h1 : ¬ z < x := by omega
    have h2 : ¬ y < x := by omega
    have h3 : x < z := by omega
    rw [rwd3, rwd3]
    simp [ri, h1, h2, h3, hz]
    exact .inl rfl
  | a :: r, hs => by
    rw [rwd3, rwd3]
    by_cases q : x < a
    · by_cases w : z < a
      · have z1 : ¬ z < x := by omega
        have y1 : ¬ y < x := by omega
        have x1 : x < z := by omega
        rw [ri_lt r q, ri_lt r w]
        simp only [ri_ge _ z1, ri_lt _ x1]
        simp only [ri_ge _ y1]
        cases r with
        | nil =>
          simp [ri, hz]
          exact .inl rfl
        | cons b r =>
          have hb := hs.hd b List.mem_cons_self
          have zb : z < b := by omega
          have yb : y < b := by omega
          rw [ri_lt r zb, ri_lt r yb]
          simp only [ri_lt _ hz]
          exact ⟨by first | rfl | simp, .inr (.inr (by simpa using Kt.b w hb))⟩
      · have z1 : ¬ z < x := by omega
        have y1 : ¬ y < x := by omega
        rw [ri_lt r q, ri_ge r w]
        simp only [ri_ge _ z1, ri_lt _ q]
        simp only [ri_ge _ y1]
        refine ⟨trivial, ?_⟩
        rcases ri_out (x := z) (r := r) with e | ⟨c, e, hc, zc⟩
        · rw [e]; simp; exact .inl rfl
        · obtain ⟨d, hd, d1, d2⟩ := out_zy hs.tl hz e
          rw [hd, e]
          rcases ri_out (x := y) (r := (ri r z).1) with e2 | ⟨d', e2, hd', yd⟩
          · rw [e2] at hd; simp at hd
          · rw [hd] at e2
            obtain rfl : d = d' := by simpa using e2
            have ad : a ≤ d := by
              rcases ri_mem hd' with rfl | m
              · omega
              · exact hs.hd d m
            exact .inr (.inl (by simpa using Kt.a ad (show d < c by omega)))
    · have z1 : ¬ z < a := by omega
      have y1 : ¬ y < a := by omega
      have ih := row_a hx hz (r := r) hs.tl
      rw [rwd3, rwd3] at ih
      simp only [ri_ge _ q, ri_ge _ z1, ri_ge _ y1]
      exact ⟨by rw [ih.1], ih.2⟩
theorem row_b {x y z : Int} (hx : x < y) (hz : y ≤ z) : ∀ {r : List Int}, Srt r → (rwd r [z, x, y]).1 = (rwd r [x, z, y]).1 ∧ KO (rwd r [z, x, y]).2 (rwd r [x, z, y]).2
  | [], _ => by
    have h1 : ¬ z < x := by omega
    have h2 : ¬ z < y := by omega
    rw [rwd3, rwd3]
    simp [ri, h1, h2, hx]
    exact .inl rfl
  | a :: r, hs => by
    rw [rwd3, rwd3]
    have z2 : ¬ z < y := by omega
    have z3 : ¬ z < x := by omega
    by_cases q : y < a
    · rw [ri_lt r q]
      simp only [ri_lt _ hx, ri_ge _ z2]
      rw [ri_ge _ z3]
      refine ⟨rfl, ?_⟩
      rcases ri_out (x := z) (r := r) with e | ⟨c, e, hc, zc⟩
      · rw [e]; simp; exact .inl rfl
      · rw [e]
        have := hs.hd c hc
        exact .inr (.inl (by simpa using Kt.b q this))
    · by_cases w : x < a
      · rw [ri_ge r q]
        have z1 : ¬ z < a := by omega
        simp only [ri_lt _ w, ri_ge _ z1]
        rw [ri_ge _ z3]
        refine ⟨rfl, ?_⟩
        rcases ri_out (x := z) (r := (ri r y).1) with e | ⟨c, e, hc, zc⟩
        · rw [e]; simp; exact .inl rfl
        · obtain ⟨b, hb, b1, b2⟩ := out_yz hs.tl hz e
          rw [e, hb]
          have ab : a < b := by omega
          exact .inr (.inl (by simpa using Kt.b ab b1))
      · have z1 : ¬ z < a := by omega
        have ih := row_b hx hz (r := r) hs.tl
        rw [rwd3, rwd3] at ih
        simp only [ri_ge _ q, ri_ge _ w, ri_ge _ z1]
        exact ⟨by rw [ih.1], ih.2⟩
end DL
namespace DL
/-! ### bumping row by row -/
theorem gts_cons (x a : Int) (r : List Int) : gts x (a :: r) = (if x < a then [0] else []) ++ (gts x r).map (· + 1) := by
  have e : ∀ l : List Nat, (l.map (· + 1)).filter (fun j => decide (x < itAt (a :: r) j)) = (l.filter fun j => decide (x < itAt r j)).map (· + 1) := by
    intro l
    induction l with
    | nil => rfl
    | cons j l ih =>
      have : itAt (a :: r) (j + 1) = itAt r j := by unfold itAt; simp
      rw [List.map_cons, List.filter_cons, List.filter_cons, this, ih]
      split <;> simp
  unfold gts
  rw [List.length_cons, List.range_succ_eq_map, List.filter_cons]
  have h0 : itAt (a :: r) 0 = a := rfl
  rw [h0]
  have e' := e (List.range r.length)
  rw [show (List.range r.length).map Nat.succ = (List.range r.length).map (· + 1) from rfl, e']
  by_cases c : x < a
  · simp [c]
  · simp [c]
theorem ri_gts (x : Int) : ∀ r : List Int, (gts x r = [] → ri r x = (r ++ [x], [])) ∧ ∀ k t, gts x r = k :: t → ri r x = (r.set k x, [itAt r k])
  | [] => ⟨fun _ => rfl, fun k t h => by simp [gts] at h⟩
  | a :: r => by
    obtain ⟨h1, h2⟩ := ri_gts x r
    rw [gts_cons]
    by_cases c : x < a
    · rw [if_pos c, ri_lt r c]
      refine ⟨fun h => by simp at h, fun k t h => ?_⟩
      simp at h
      obtain ⟨rfl, -⟩ := h
      rfl
    · rw [if_neg c, ri_ge r c, List.nil_append]
      refine ⟨fun h => ?_, fun k t h => ?_⟩
      · rw [h1 (by simpa using h)]; rfl
      · cases e : gts x r with
        | nil => rw [e] at h; simp at h
        | cons k' t' =>
          rw [e] at h
          simp at h
          obtain ⟨rfl, -⟩ := h
          rw [h2 k' t' e]
          simp [itAt]
theorem bump_no {r : List Int} {x : Int} (rs : List (List Int)) (h : (ri r x).2 = []) : bumpL (r :: rs) x = ((ri r x).1 :: rs, 0) := by
  cases e : gts x r with
  | nil => rw [bumpL_stop e, (ri_gts x r).1 e]
  | cons k t => rw [(ri_gts x r).2 k t e] at h; simp at h
theorem bump_on {r : List Int} {x c : Int} (rs : List (List Int)) (h : (ri r x).2 = [c]) : bumpL (r :: rs) x = ((ri r x).1 :: (bumpL rs c).1, (bumpL rs c).2 + 1) := by
  cases e : gts x r with
  | nil => rw [(ri_gts x r).1 e] at h; simp at h
  | cons k t =>
    rw [(ri_gts x r).2 k t e] at h
    obtain rfl : itAt r k = c := by simpa using h
    rw [bumpL_on e, (ri_gts x r).2 k t e]
/-- the letters of a word into a tableau, the last one first -/
def insW (T : List (List Int)) : List Int → List (List Int)
  | [] => T
  | a :: w => (bumpL (insW T w) a).1
def pL (w : List Int) : List (List Int) := insW [] w
theorem pL_pair : ∀ w : List Int, (pairL w).1 = pL w
  | [] => rfl
  | a :: w => by rw [pairL, pL_pair w]; rfl
theorem insW_app (T : List (List Int)) (v : List Int) : ∀ u : List Int, insW T (u ++ v) = insW (insW T v) u
  | [] => rfl
  | a :: u => by rw [List.cons_append, insW, insW_app T v u]; rfl
theorem insW_cons (r : List Int) (rs : List (List Int)) : ∀ w : List Int, insW (r :: rs) w = (rwd r w).1 :: insW rs (rwd r w).2
  | [] => rfl
  | a :: w => by
    rw [insW, insW_cons r rs w, rwd]
    rcases ri_out (r := (rwd r w).1) (x := a) with e | ⟨c, e, -, -⟩
    · rw [bump_no _ e, e]; rfl
    · rw [bump_on _ e, e]; rfl
theorem insW_nil : ∀ w : List Int, w ≠ [] → insW [] w = insW [[]] w
  | [], h => absurd rfl h
  | [a], _ => rfl
  | a :: b :: w, _ => by
    rw [insW, insW_nil (b :: w) (by simp)]
    rfl
theorem pL_cons {w : List Int} (h : w ≠ []) : pL w = (rwd [] w).1 :: pL (rwd [] w).2 := by
  unfold pL
  rw [insW_nil w h, insW_cons]
theorem ri_len {x : Int} : ∀ {r : List Int}, (ri r x).1.length + (ri r x).2.length = r.length + 1
  | [] => rfl
  | a :: r => by
    by_cases c : x < a
    · rw [ri_lt r c]; rfl
    · rw [ri_ge r c]
      have := ri_len (x := x) (r := r)
      simp only [List.length_cons]; omega
theorem rwd_len (r : List Int) : ∀ w : List Int, (rwd r w).1.length + (rwd r w).2.length = r.length + w.length
  | [] => rfl
  | a :: w => by
    have h1 := rwd_len r w
    have h2 := ri_len (x := a) (r := (rwd r w).1)
    rw [rwd]
    simp only [List.length_append, List.length_cons]; omega
theorem ri_ne {r : List Int} {x : Int} : (ri r x).1 ≠ [] := fun e => by
  have := ri_in (x := x) (r := r)
  rw [e] at this
  simp at this
theorem rwd_srt {r : List Int} (h : Srt r) : ∀ w : List Int, Srt (rwd r w).1
  | [] => h
  | a :: w => by rw [rwd]; exact ri_srt (rwd_srt h w)
theorem rwd_ne {w : List Int} (r : List Int) (h : w ≠ []) : (rwd r w).1 ≠ [] := by
  cases w with
  | nil => exact absurd rfl h
  | cons a w => rw [rwd]; exact ri_ne
theorem srt_nil : Srt [] := List.Pairwise.nil
def SrtT (T : List (List Int)) : Prop := ∀ r ∈ T, Srt r
theorem SrtT.tl {r : List Int} {T : List (List Int)} (h : SrtT (r :: T)) : SrtT T := fun q hq => h q (List.mem_cons_of_mem _ hq)
theorem SrtT.hd {r : List Int} {T : List (List Int)} (h : SrtT (r :: T)) : Srt r := h r List.mem_cons_self
theorem srtT_nil : SrtT [] := fun q hq => by cases hq
theorem bump_srt : ∀ {T : List (List Int)} {x : Int}, SrtT T → SrtT (bumpL T x).1
  | [], x, h => fun q hq => by
    rw [bumpL] at hq
    rw [List.mem_singleton.mp hq]
    exact List.pairwise_singleton _ _
  | r :: T, x, h => by
    rcases ri_out (r := r) (x := x) with e | ⟨c, e, -, -⟩
    · rw [bump_no _ e]
      intro q hq
      rcases List.mem_cons.mp hq with rfl | hq
      · exact ri_srt h.hd
      · exact h.tl q hq
    · rw [bump_on _ e]
      intro q hq
      rcases List.mem_cons.mp hq with rfl | hq
      · exact ri_srt h.hd
      · exact bump_srt h.tl q hq
theorem insW_srt {T : List (List Int)} (h : SrtT T) : ∀ w : List Int, SrtT (insW T w)
  | [] => h
  | a :: w => bump_srt (insW_srt h w)
theorem kt_len {t t' : List Int} (h : Kt t t') : t.length = 3 ∧ t'.length = 3 := by cases h <;> exact ⟨rfl, rfl⟩
theorem row_kt {t t' : List Int} (h : Kt t t') {r : List Int} (hs : Srt r) : (rwd r t).1 = (rwd r t').1 ∧ KO (rwd r t).2 (rwd r t').2 := by
  cases h with
  | a h1 h2 => exact row_a h1 h2 hs
  | b h1 h2 => exact row_b h1 h2 hs
theorem ins_kt : ∀ {T : List (List Int)} {t t' : List Int}, SrtT T → Kt t t' → insW T t = insW T t'
  | [], t, t', _, h => by
    obtain ⟨l1, l2⟩ := kt_len h
    have n1 : t ≠ [] := fun e => by rw [e] at l1; simp at l1
    have n2 : t' ≠ [] := fun e => by rw [e] at l2; simp at l2
    rw [insW_nil t n1, insW_nil t' n2, insW_cons, insW_cons]
    obtain ⟨a1, a2⟩ := row_kt h srt_nil
    have s : ∀ {u : List Int}, u ≠ [] → u.length = 3 → (rwd [] u).2.length ≤ 2 := fun {u} hu hl => by
      have h1 := rwd_len [] u
      have h2 : (rwd [] u).1.length ≠ 0 := fun e => rwd_ne [] hu (List.length_eq_zero_iff.mp e)
      rw [hl] at h1
      simp at h1
      omega
    have s1 := s n1 l1
    have s2 := s n2 l2
    rcases a2 with a2 | a2 | a2
    · rw [a1, a2]
    · have := (kt_len a2).1; omega
    · have := (kt_len a2).1; omega
  | r :: T, t, t', hT, h => by
    obtain ⟨a1, a2⟩ := row_kt h hT.hd
    rw [insW_cons, insW_cons, a1]
    rcases a2 with a2 | a2 | a2
    · rw [a2]
    · rw [ins_kt hT.tl a2]
    · rw [ins_kt hT.tl a2]
/-- steps of Knuth, any number of them, both ways -/
inductive K : List Int → List Int → Prop
  | refl (u : List Int) : K u u
  | step (u v : List Int) {t t' : List Int} : Kt t t' → K (u ++ (t ++ v)) (u ++ (t' ++ v))
  | symm {u v : List Int} : K u v → K v u
  | trans {u v w : List Int} : K u v → K v w → K u w
theorem K.of_eq {u v : List Int} (h : u = v) : K u v := h ▸ .refl u
theorem K.ctx {s s' : List Int} (h : K s s') : ∀ (u v : List Int), K (u ++ (s ++ v)) (u ++ (s' ++ v)) := by
  induction h with
  | refl w => exact fun u v => .refl _
  | step u' v' k =>
    intro u v
    have := K.step (u ++ u') (v' ++ v) k
    simpa using this
  | symm _ ih => exact fun u v => (ih u v).symm
  | trans _ _ ih1 ih2 => exact fun u v => (ih1 u v).trans (ih2 u v)
theorem K.left {s s' : List Int} (h : K s s') (v : List Int) : K (s ++ v) (s' ++ v) := h.ctx [] v
theorem K.right {s s' : List Int} (h : K s s') (u : List Int) : K (u ++ s) (u ++ s') := by
  have := h.ctx u []
  simpa using this
/-- words that steps lead to one another have one tableau -/
theorem K.pL {u v : List Int} (h : K u v) : pL u = pL v := by
  induction h with
  | refl _ => rfl
  | step u v k =>
    unfold DL.pL
    rw [insW_app, insW_app [] (_ ++ v), insW_app, insW_app [] v, ins_kt (insW_srt srtT_nil v) k]
  | symm _ ih => exact ih.symm
  | trans _ _ h1 h2 => exact h1.trans h2
theorem K.perm {u v : List Int} (h : K u v) : List.Perm u v := by
  induction h with
  | refl _ => exact .refl _
  | step u v k =>
    refine List.Perm.append_left u (List.Perm.append_right v ?_)
    cases k with
    | a _ _ => exact List.Perm.cons _ (List.Perm.swap _ _ _)
    | b _ _ => exact List.Perm.swap _ _ _
  | symm _ ih => exact ih.symm
  | trans _ _ h1 h2 => exact h1.trans h2
theorem K.len {u v : List Int} (h : K u v) : u.length = v.length := h.perm.length_eq
/-- without the lesser letters -/
theorem K.cut {u v : List Int} (m : Int) (h : K u v) : K (u.filter fun a => decide (m ≤ a)) (v.filter fun a => decide (m ≤ a)) := by
  induction h with
  | refl _ => exact .refl _
  | @step u v t t' k =>
    rw [List.filter_append, List.filter_append, List.filter_append, List.filter_append]
    refine K.ctx ?_ _ _
    cases k with
    | @a x y z h1 h2 =>
      by_cases c : m ≤ x
      · have c1 : m ≤ y := by omega
        have c2 : m ≤ z := by omega
        simp only [List.filter_cons, List.filter_nil, c, c1, c2, decide_true, if_true]
        exact K.step [] [] (.a h1 h2)
      · refine .of_eq ?_
        simp [List.filter_cons, c]
    | @b x y z h1 h2 =>
      by_cases c : m ≤ x
      · have c1 : m ≤ y := by omega
        have c2 : m ≤ z := by omega
        simp only [List.filter_cons, List.filter_nil, c, c1, c2, decide_true, if_true]
        exact K.step [] [] (.b h1 h2)
      · refine .of_eq ?_
        simp [List.filter_cons, c]
  | symm _ ih => exact ih.symm
  | trans _ _ h1 h2 => exact h1.trans h2
/-! ### a letter into a row, as steps -/
theorem k_past {x : Int} : ∀ {s : List Int} {b : Int}, Srt s → (∀ c ∈ s, b ≤ c) → x < b → K (x :: (s.reverse ++ [b])) (s.reverse ++ [x, b])
  | [], b, _, _, _ => .refl _
  | c :: s, b, hs, hb, h => by
    have hc := hb c List.mem_cons_self
    have ih := k_past (x := x) (s := s) (b := c) hs.tl (fun d hd => hs.hd d hd) (by omega)
    have k := K.step s.reverse [] (Kt.b h hc)
    rw [List.reverse_cons]
    refine (K.left ih [b]).trans ?_ |> fun e => by simpa using e
    simpa using k.symm
theorem k_ri {x : Int} : ∀ {r : List Int}, Srt r → K (x :: r.reverse) ((ri r x).1.reverse ++ (ri r x).2)
  | [], _ => .refl _
  | a :: r, hs => by
    by_cases c : x < a
    · rw [ri_lt r c]
      have := k_past (x := x) (s := r) (b := a) hs.tl (fun d hd => hs.hd d hd) c
      simpa using this
    · rw [ri_ge r c]
      have ih := (k_ri (x := x) (r := r) hs.tl).left [a]
      rcases ri_out (r := r) (x := x) with e | ⟨d, e, hd, xd⟩
      · rw [e] at ih ⊢
        simpa using ih
      · rw [e] at ih ⊢
        have hin := ri_in (x := x) (r := r)
        cases q : (ri r x).1 with
        | nil => rw [q] at hin; simp at hin
        | cons f R =>
          rw [q] at ih
          have sr := ri_srt (x := x) hs.tl
          rw [q] at sr hin
          have fx : f ≤ x := by
            rcases List.mem_cons.mp hin with e | m
            · omega
            · exact sr.hd x m
          have af : a ≤ f := by
            have : f ∈ (ri r x).1 := by rw [q]; exact List.mem_cons_self
            rcases ri_mem this with rfl | m
            · omega
            · exact hs.hd f m
          have k := K.step R.reverse [] (Kt.a af (show f < d by omega))
          refine (show K _ _ from by simpa using ih).trans ?_
          simpa using k
/-- the reading of rows -/
def rd : List (List Int) → List Int
  | [] => []
  | r :: T => r.reverse ++ rd T
theorem k_bump : ∀ {T : List (List Int)} {x : Int}, SrtT T → K (x :: rd T) (rd (bumpL T x).1)
  | [], x, _ => .refl _
  | r :: T, x, h => by
    have k := (k_ri (x := x) h.hd).left (rd T)
    rcases ri_out (r := r) (x := x) with e | ⟨c, e, -, -⟩
    · rw [bump_no _ e]
      rw [e] at k
      simpa [rd] using k
    · rw [bump_on _ e]
      rw [e] at k
      have k2 := (k_bump (T := T) (x := c) h.tl).right (ri r x).1.reverse
      refine (show K _ _ from by simpa [rd] using k).trans ?_
      simpa [rd] using k2
theorem k_rd : ∀ w : List Int, K w (rd (pL w))
  | [] => .refl _
  | a :: w => ((k_rd w).right [a]).trans (k_bump (insW_srt srtT_nil w))
/-- the theorem of Knuth -/
theorem k_iff {u v : List Int} : K u v ↔ pL u = pL v := ⟨K.pL, fun h => (k_rd u).trans (by rw [h]; exact (k_rd v).symm)⟩
end DL
namespace DL
/-! ### the pairing, plain -/
def ug (i : Int) : Nat → List Int → List Nat → List Nat → List Nat × List Nat
  | _, [], hi, lo => (hi, lo)
  | k, x :: w, hi, lo => if x = i then ug i (k + 1) w hi (lo ++ [k]) else if x = i + 1 then (if lo = [] then ug i (k + 1) w (hi ++ [k]) lo else ug i (k + 1) w hi lo.dropLast) else ug i (k + 1) w hi lo
def upr (w : List Int) (i : Int) : List Nat × List Nat := ug i 0 w [] []
/-- another letter at a place -/
def wl (w : List Int) (p : Nat) (x : Int) : List Int := w.take p ++ [x] ++ w.drop (p + 1)
theorem wl_len (w : List Int) (p : Nat) (x : Int) : (wl w p x).length ≤ w.length + 1 := by
  unfold wl; simp; omega
def raise (w : List Int) (i : Int) : Option (List Int) := match (upr w i).1.getLast? with
  | none => none
  | some p => some (wl w p i)
def lower (w : List Int) (i : Int) : Option (List Int) := match (upr w i).2 with
  | [] => none
  | p :: _ => some (wl w p (i + 1))
theorem ug_cons (i : Int) (k : Nat) (x : Int) (w : List Int) (hi lo : List Nat) : ug i k (x :: w) hi lo = if x = i then ug i (k + 1) w hi (lo ++ [k]) else if x = i + 1 then (if lo = [] then ug i (k + 1) w (hi ++ [k]) lo else ug i (k + 1) w hi lo.dropLast) else ug i (k + 1) w hi lo := rfl
theorem ug_app (i : Int) : ∀ (u w : List Int) (k : Nat) (hi lo : List Nat), ug i k (u ++ w) hi lo = ug i (k + u.length) w (ug i k u hi lo).1 (ug i k u hi lo).2
  | [], w, k, hi, lo => rfl
  | x :: u, w, k, hi, lo => by
    rw [List.cons_append, List.length_cons, show k + (u.length + 1) = k + 1 + u.length by omega, ug_cons, ug_cons i k x u]
    split
    · exact ug_app i u w (k + 1) hi (lo ++ [k])
    · split
      · split
        · exact ug_app i u w (k + 1) (hi ++ [k]) lo
        · exact ug_app i u w (k + 1) hi lo.dropLast
      · exact ug_app i u w (k + 1) hi lo
theorem ug_shift (i : Int) (d : Nat) : ∀ (w : List Int) (k : Nat) (hi lo : List Nat), ug i (k + d) w (hi.map (· + d)) (lo.map (· + d)) = ((ug i k w hi lo).1.map (· + d), (ug i k w hi lo).2.map (· + d))
  | [], k, hi, lo => rfl
  | x :: w, k, hi, lo => by
    have e1 : k + d + 1 = k + 1 + d := by omega
    unfold ug
    split
    · have := ug_shift i d w (k + 1) hi (lo ++ [k])
      rw [List.map_append] at this
      rw [e1]
      exact this
    · split
      · by_cases c : lo = []
        · subst c
          rw [List.map_nil, if_pos rfl, if_pos rfl]
          have := ug_shift i d w (k + 1) (hi ++ [k]) []
          rw [List.map_append] at this
          rw [e1]
          exact this
        · rw [if_neg (by simpa using c), if_neg c, ← List.map_dropLast, e1]
          exact ug_shift i d w (k + 1) hi lo.dropLast
      · rw [e1]
        exact ug_shift i d w (k + 1) hi lo
/-- one letter more -/
theorem ug_snoc (i : Int) (k : Nat) (u : List Int) (x : Int) (hi lo : List Nat) : ug i k (u ++ [x]) hi lo = if x = i then ((ug i k u hi lo).1, (ug i k u hi lo).2 ++ [k + u.length]) else if x = i + 1 then (if (ug i k u hi lo).2 = [] then ((ug i k u hi lo).1 ++ [k + u.length], (ug i k u hi lo).2) else ((ug i k u hi lo).1, (ug i k u hi lo).2.dropLast)) else ((ug i k u hi lo).1, (ug i k u hi lo).2) := by
  rw [ug_app]
  show (if x = i then _ else _) = _
  split
  · rfl
  · split
    · split <;> rfl
    · rfl
/-- from letters that wait -/
theorem ug_gen (i : Int) (k : Nat) (hi lo : List Nat) (w : List Int) : ug i k w hi lo = (hi ++ (ug i k w [] []).1.drop lo.length, lo.take (lo.length - (ug i k w [] []).1.length) ++ (ug i k w [] []).2) := by
  induction h : w.length generalizing w with
  | zero =>
    obtain rfl := List.length_eq_zero_iff.mp h
    show (hi, lo) = (hi ++ [].drop lo.length, lo.take (lo.length - 0) ++ [])
    simp
  | succ m ih =>
    obtain ⟨u, x, rfl⟩ : ∃ u x, w = u ++ [x] := by
      rcases List.eq_nil_or_concat w with rfl | ⟨l, b, rfl⟩
      · simp at h
      · exact ⟨l, b, by simp⟩
    have ih := ih u (by simpa using h)
    rw [ug_snoc, ug_snoc i k u x [] [], ih]
    generalize (ug i k u [] []).1 = H
    generalize (ug i k u [] []).2 = L
    by_cases c1 : x = i
    · simp only [if_pos c1, List.append_assoc]
    · simp only [if_neg c1]
      by_cases c2 : x = i + 1
      · simp only [if_pos c2]
        by_cases c3 : L = []
        · subst c3
          simp only [List.append_nil, if_true]
          by_cases c4 : lo.length ≤ H.length
          · have e1 : lo.take (lo.length - H.length) = [] := by rw [show lo.length - H.length = 0 by omega]; rfl
            have e2 : lo.take (lo.length - (H ++ [k + u.length]).length) = [] := by rw [show lo.length - (H ++ [k + u.length]).length = 0 by rw [List.length_append]; simp; omega]; rfl
            rw [e1, e2, if_pos rfl, List.drop_append_of_le_length c4, List.append_assoc]
          · have ne : lo.take (lo.length - H.length) ≠ [] := fun e => by
              have := congrArg List.length e
              rw [List.length_take] at this
              simp at this
              omega
            rw [if_neg ne, List.drop_eq_nil_of_le (by omega), List.drop_eq_nil_of_le (by rw [List.length_append]; simp; omega), List.dropLast_eq_take, List.take_take, List.length_take]
            rw [show (H ++ [k + u.length]).length = H.length + 1 by simp, show min (min (lo.length - H.length) lo.length - 1) (lo.length - H.length) = lo.length - (H.length + 1) by omega]
        · have ne : lo.take (lo.length - H.length) ++ L ≠ [] := fun e => c3 (List.append_eq_nil_iff.mp e).2
          rw [if_neg c3, if_neg ne, List.dropLast_append_of_ne_nil c3]
      · simp only [if_neg c2]
theorem upr_app (A B : List Int) (i : Int) : upr (A ++ B) i = ((upr A i).1 ++ ((upr B i).1.drop (upr A i).2.length).map (· + A.length), (upr A i).2.take ((upr A i).2.length - (upr B i).1.length) ++ (upr B i).2.map (· + A.length)) := by
  unfold upr
  rw [ug_app, ug_gen]
  have s := ug_shift i A.length B 0 [] []
  rw [List.map_nil] at s
  rw [s]
  simp only [List.length_map, List.map_drop]
/-- places lie within -/
theorem ug_bd (i : Int) : ∀ (w : List Int) (k : Nat) (hi lo : List Nat) (n : Nat), (∀ p ∈ hi, p < n) → (∀ p ∈ lo, p < n) → k + w.length ≤ n → (∀ p ∈ (ug i k w hi lo).1, p < n) ∧ ∀ p ∈ (ug i k w hi lo).2, p < n
  | [], k, hi, lo, n, h1, h2, _ => ⟨h1, h2⟩
  | x :: w, k, hi, lo, n, h1, h2, hn => by
    rw [List.length_cons] at hn
    have one : ∀ l : List Nat, (∀ p ∈ l, p < n) → ∀ p ∈ l ++ [k], p < n := fun l hl p hp => by
      rcases List.mem_append.mp hp with hp | hp
      · exact hl p hp
      · rw [List.mem_singleton.mp hp]; omega
    unfold ug
    split
    · exact ug_bd i w (k + 1) hi _ n h1 (one lo h2) (by omega)
    · split
      · split
        · exact ug_bd i w (k + 1) _ lo n (one hi h1) h2 (by omega)
        · exact ug_bd i w (k + 1) hi _ n h1 (fun p hp => h2 p ((List.dropLast_sublist _).subset hp)) (by omega)
      · exact ug_bd i w (k + 1) hi lo n h1 h2 (by omega)
theorem upr_bd (w : List Int) (i : Int) : (∀ p ∈ (upr w i).1, p < w.length) ∧ ∀ p ∈ (upr w i).2, p < w.length := ug_bd i w 0 [] [] w.length (by simp) (by simp) (by omega)
theorem wl_set {w : List Int} {p : Nat} (x : Int) (h : p < w.length) : wl w p x = w.set p x := by
  unfold wl
  rw [List.set_eq_take_append_cons_drop, if_pos h]
  simp
theorem wl_left {A : List Int} {p : Nat} (B : List Int) (x : Int) (h : p < A.length) : wl (A ++ B) p x = wl A p x ++ B := by
  rw [wl_set x h, wl_set x (by rw [List.length_append]; omega), List.set_append_left _ _ h]
theorem wl_right (A : List Int) {B : List Int} {p : Nat} (x : Int) (h : p < B.length) : wl (A ++ B) (p + A.length) x = A ++ wl B p x := by
  rw [wl_set x h, wl_set x (by rw [List.length_append]; omega), List.set_append_right _ _ (by omega), Nat.add_sub_cancel]
/-- numbers of unpaired letters -/
def ep (w : List Int) (i : Int) : Nat := (upr w i).1.length
def ph (w : List Int) (i : Int) : Nat := (upr w i).2.length
theorem ep_app (A B : List Int) (i : Int) : ep (A ++ B) i = ep A i + (ep B i - ph A i) := by
  unfold ep ph
  rw [upr_app]
  simp
theorem raise_app (A B : List Int) (i : Int) : raise (A ++ B) i = if ph A i < ep B i then (raise B i).map (A ++ ·) else (raise A i).map (· ++ B) := by
  unfold raise ph ep
  rw [upr_app]
  simp only
  have bA := (upr_bd A i).1
  have bB := (upr_bd B i).1
  generalize (upr A i).2 = LA
  generalize (upr A i).1 = HA at *
  generalize (upr B i).1 = HB at *
  by_cases c : LA.length < HB.length
  · rw [if_pos c]
    rcases List.eq_nil_or_concat HB with rfl | ⟨l, b, rfl⟩
    · simp at c
    · rw [List.concat_eq_append] at *
      have hl : LA.length ≤ l.length := by rw [List.length_append, List.length_singleton] at c; omega
      rw [List.drop_append_of_le_length hl, List.map_append, ← List.append_assoc]
      rw [List.getLast?_append, List.getLast?_append]
      simp only [List.map_cons, List.map_nil, List.getLast?_singleton, Option.some_or, Option.map_some]
      rw [wl_right A i (bB b (by simp))]
      simp
  · rw [if_neg c, List.drop_eq_nil_of_le (by omega), List.map_nil, List.append_nil]
    cases e : HA.getLast? with
    | none => rfl
    | some p =>
      have := bA p (List.mem_of_getLast? e)
      simp only [Option.map_some]
      rw [wl_left B i this]
theorem lower_app (A B : List Int) (i : Int) : lower (A ++ B) i = if ep B i < ph A i then (lower A i).map (· ++ B) else (lower B i).map (A ++ ·) := by
  unfold lower ph ep
  rw [upr_app]
  simp only
  have bA := (upr_bd A i).2
  have bB := (upr_bd B i).2
  generalize (upr B i).1 = HB
  generalize (upr A i).2 = LA at *
  generalize (upr B i).2 = LB at *
  by_cases c : HB.length < LA.length
  · rw [if_pos c]
    cases LA with
    | nil => simp at c
    | cons p r =>
      rw [List.length_cons] at *
      rw [show r.length + 1 - HB.length = (r.length - HB.length) + 1 by omega, List.take_succ_cons, List.cons_append]
      simp only [Option.map_some]
      rw [wl_left B (i + 1) (bA p (by simp))]
  · rw [if_neg c, show LA.length - HB.length = 0 by omega, List.take_zero, List.nil_append]
    cases LB with
    | nil => rfl
    | cons p r =>
      rw [List.map_cons]
      simp only [Option.map_some]
      rw [wl_right A (i + 1) (bB p (by simp))]
/-! ### words in a row -/
def epL (i : Int) : List (List Int) → Nat
  | [] => 0
  | w :: r => ep w i + (epL i r - ph w i)
def rW (i : Int) : List (List Int) → Option (List (List Int))
  | [] => none
  | w :: r => if ph w i < epL i r then (rW i r).map (w :: ·) else (raise w i).map (· :: r)
def lW (i : Int) : List (List Int) → Option (List (List Int))
  | [] => none
  | w :: r => if epL i r < ph w i then (lower w i).map (· :: r) else (lW i r).map (w :: ·)
theorem ep_flat (i : Int) : ∀ ws : List (List Int), ep ws.flatten i = epL i ws
  | [] => rfl
  | w :: r => by
    rw [List.flatten_cons, ep_app, ep_flat i r]
    rfl
theorem raise_flat (i : Int) : ∀ ws : List (List Int), raise ws.flatten i = (rW i ws).map List.flatten
  | [] => rfl
  | w :: r => by
    have e : rW i (w :: r) = if ph w i < epL i r then (rW i r).map (w :: ·) else (raise w i).map (· :: r) := rfl
    rw [List.flatten_cons, raise_app, ep_flat, raise_flat i r, e]
    split
    · cases rW i r <;> rfl
    · cases raise w i <;> rfl
theorem lower_flat (i : Int) : ∀ ws : List (List Int), lower ws.flatten i = (lW i ws).map List.flatten
  | [] => rfl
  | w :: r => by
    have e : lW i (w :: r) = if epL i r < ph w i then (lower w i).map (· :: r) else (lW i r).map (w :: ·) := rfl
    rw [List.flatten_cons, lower_app, ep_flat, lower_flat i r, e]
    split
    · cases lower w i <;> rfl
    · cases lW i r <;> rfl
end DL
namespace DL
/-! ### raising and lowering go with the steps of Knuth -/
theorem upr_one (a i : Int) : upr [a] i = if a = i then ([], [0]) else if a = i + 1 then ([0], []) else ([], []) := by
  unfold upr ug
  split
  · rfl
  · split
    · rfl
    · rfl
theorem ep_one (a i : Int) : ep [a] i = if a = i + 1 then 1 else 0 := by
  unfold ep
  rw [upr_one]
  split
  · rw [if_neg (by omega)]; rfl
  · split <;> rfl
theorem ph_one (a i : Int) : ph [a] i = if a = i then 1 else 0 := by
  unfold ph
  rw [upr_one]
  split
  · rfl
  · split <;> rfl
theorem raise_one (a i : Int) : raise [a] i = if a = i + 1 then some [i] else none := by
  unfold raise
  rw [upr_one]
  by_cases c : a = i
  · have n : ¬ a = i + 1 := by omega
    rw [if_pos c, if_neg n]
    rfl
  · rw [if_neg c]
    by_cases d : a = i + 1
    · rw [if_pos d, if_pos d]; rfl
    · rw [if_neg d, if_neg d]; rfl
theorem lower_one (a i : Int) : lower [a] i = if a = i then some [i + 1] else none := by
  unfold lower
  rw [upr_one]
  by_cases c : a = i
  · rw [if_pos c, if_pos c]; rfl
  · rw [if_neg c, if_neg c]
    by_cases d : a = i + 1
    · rw [if_pos d]
    · rw [if_neg d]
theorem ph_app (A B : List Int) (i : Int) : ph (A ++ B) i = (ph A i - ep B i) + ph B i := by
  unfold ep ph
  rw [upr_app]
  simp
theorem raise_cons (a : Int) (w : List Int) (i : Int) : raise (a :: w) i = if (if a = i then 1 else 0) < ep w i then (raise w i).map (a :: ·) else if a = i + 1 then some (i :: w) else none := by
  have := raise_app [a] w i
  rw [List.singleton_append, ph_one, raise_one] at this
  rw [this]
  by_cases c : a = i + 1 <;> simp [c]
theorem lower_cons (a : Int) (w : List Int) (i : Int) : lower (a :: w) i = if ep w i < (if a = i then 1 else 0) then some ((i + 1) :: w) else (lower w i).map (a :: ·) := by
  have := lower_app [a] w i
  rw [List.singleton_append, ph_one, lower_one] at this
  rw [this]
  by_cases c : a = i
  · simp [c]
  · simp [c]
theorem ep_cons (a : Int) (w : List Int) (i : Int) : ep (a :: w) i = (if a = i + 1 then 1 else 0) + (ep w i - if a = i then 1 else 0) := by
  have := ep_app [a] w i
  rw [List.singleton_append, ph_one, ep_one] at this
  exact this
theorem ph_cons (a : Int) (w : List Int) (i : Int) : ph (a :: w) i = ((if a = i then 1 else 0) - ep w i) + ph w i := by
  have := ph_app [a] w i
  rw [List.singleton_append, ph_one] at this
  exact this
@[simp] theorem ep_nil (i : Int) : ep [] i = 0 := rfl
@[simp] theorem ph_nil (i : Int) : ph [] i = 0 := rfl
@[simp] theorem raise_nil (i : Int) : raise [] i = none := rfl
@[simp] theorem lower_nil (i : Int) : lower [] i = none := rfl
/-- both none, or both some, with steps between them -/
def OK2 (a b : Option (List Int)) : Prop := (a = none ∧ b = none) ∨ ∃ u v, a = some u ∧ b = some v ∧ K u v
theorem kk {u v : List Int} (h : Kt u v) : K u v := by
  have := K.step [] [] h
  simpa using this
theorem kt_ep {t t' : List Int} (h : Kt t t') (i : Int) : ep t i = ep t' i ∧ ph t i = ph t' i := by
  cases h with
  | @a x y z h1 h2 =>
    simp only [ep_cons, ph_cons, ep_nil, ph_nil]
    by_cases a1 : x = i <;> by_cases a2 : x = i + 1 <;> by_cases b1 : y = i <;> by_cases b2 : y = i + 1 <;> by_cases c1 : z = i <;> by_cases c2 : z = i + 1 <;> first | (exfalso; omega) | simp [a1, a2, b1, b2, c1, c2, show ¬ i = i + 1 by omega, show ¬ i + 1 = i by omega]
  | @b x y z h1 h2 =>
    simp only [ep_cons, ph_cons, ep_nil, ph_nil]
    by_cases a1 : x = i <;> by_cases a2 : x = i + 1 <;> by_cases b1 : y = i <;> by_cases b2 : y = i + 1 <;> by_cases c1 : z = i <;> by_cases c2 : z = i + 1 <;> first | (exfalso; omega) | simp [a1, a2, b1, b2, c1, c2, show ¬ i = i + 1 by omega, show ¬ i + 1 = i by omega]
theorem kt_raise {t t' : List Int} (h : Kt t t') (i : Int) : OK2 (raise t i) (raise t' i) := by
  cases h with
  | @a x y z h1 h2 =>
    simp only [raise_cons, ep_cons, ph_cons, ep_nil, ph_nil, raise_nil]
    by_cases a1 : x = i <;> by_cases a2 : x = i + 1 <;> by_cases b1 : y = i <;> by_cases b2 : y = i + 1 <;> by_cases c1 : z = i <;> by_cases c2 : z = i + 1 <;> first | (exfalso; omega) | (simp [a1, a2, b1, b2, c1, c2, OK2, show ¬ i = i + 1 by omega, show ¬ i + 1 = i by omega]; try first | exact K.refl _ | exact kk (.a (by omega) (by omega)) | exact kk (.b (by omega) (by omega)) | exact (kk (.a (by omega) (by omega))).symm | exact (kk (.b (by omega) (by omega))).symm)
  | @b x y z h1 h2 =>
    simp only [raise_cons, ep_cons, ph_cons, ep_nil, ph_nil, raise_nil]
    by_cases a1 : x = i <;> by_cases a2 : x = i + 1 <;> by_cases b1 : y = i <;> by_cases b2 : y = i + 1 <;> by_cases c1 : z = i <;> by_cases c2 : z = i + 1 <;> first | (exfalso; omega) | (simp [a1, a2, b1, b2, c1, c2, OK2, show ¬ i = i + 1 by omega, show ¬ i + 1 = i by omega]; try first | exact K.refl _ | exact kk (.a (by omega) (by omega)) | exact kk (.b (by omega) (by omega)) | exact (kk (.a (by omega) (by omega))).symm | exact (kk (.b (by omega) (by omega))).symm)
theorem kt_lower {t t' : List Int} (h : Kt t t') (i : Int) : OK2 (lower t i) (lower t' i) := by
  cases h with
  | @a x y z h1 h2 =>
    simp only [lower_cons, ep_cons, ph_cons, ep_nil, ph_nil, lower_nil]
    by_cases a1 : x = i <;> by_cases a2 : x = i + 1 <;> by_cases b1 : y = i <;> by_cases b2 : y = i + 1 <;> by_cases c1 : z = i <;> by_cases c2 : z = i + 1 <;> first | (exfalso; omega) | (simp [a1, a2, b1, b2, c1, c2, OK2, show ¬ i = i + 1 by omega, show ¬ i + 1 = i by omega]; try first | exact K.refl _ | exact kk (.a (by omega) (by omega)) | exact kk (.b (by omega) (by omega)) | exact (kk (.a (by omega) (by omega))).symm | exact (kk (.b (by omega) (by omega))).symm)
  | @b x y z h1 h2 =>
    simp only [lower_cons, ep_cons, ph_cons, ep_nil, ph_nil, lower_nil]
    by_cases a1 : x = i <;> by_cases a2 : x = i + 1 <;> by_cases b1 : y = i <;> by_cases b2 : y = i + 1 <;> by_cases c1 : z = i <;> by_cases c2 : z = i + 1 <;> first | (exfalso; omega) | (simp [a1, a2, b1, b2, c1, c2, OK2, show ¬ i = i + 1 by omega, show ¬ i + 1 = i by omega]; try first | exact K.refl _ | exact kk (.a (by omega) (by omega)) | exact kk (.b (by omega) (by omega)) | exact (kk (.a (by omega) (by omega))).symm | exact (kk (.b (by omega) (by omega))).symm)
theorem OK2.rfl' {a : Option (List Int)} : OK2 a a := by
  cases a with
  | none => exact .inl ⟨rfl, rfl⟩
  | some u => exact .inr ⟨u, u, rfl, rfl, .refl u⟩
theorem OK2.sym {a b : Option (List Int)} (h : OK2 a b) : OK2 b a := by
  rcases h with ⟨h1, h2⟩ | ⟨u, v, h1, h2, k⟩
  · exact .inl ⟨h2, h1⟩
  · exact .inr ⟨v, u, h2, h1, k.symm⟩
theorem OK2.tr {a b c : Option (List Int)} (h : OK2 a b) (h' : OK2 b c) : OK2 a c := by
  rcases h with ⟨h1, h2⟩ | ⟨u, v, h1, h2, k⟩
  · rw [h1, ← h2]; exact h'
  · rcases h' with ⟨g1, g2⟩ | ⟨u', v', g1, g2, k'⟩
    · rw [h2] at g1; simp at g1
    · rw [h2] at g1
      obtain rfl : v = u' := by simpa using g1
      exact .inr ⟨u, v', h1, g2, k.trans k'⟩
theorem OK2.mp {a b : Option (List Int)} {f g : List Int → List Int} (h : OK2 a b) (hf : ∀ u v, K u v → K (f u) (g v)) : OK2 (a.map f) (b.map g) := by
  rcases h with ⟨h1, h2⟩ | ⟨u, v, h1, h2, k⟩
  · exact .inl ⟨by rw [h1]; rfl, by rw [h2]; rfl⟩
  · exact .inr ⟨f u, g v, by rw [h1]; rfl, by rw [h2]; rfl, hf u v k⟩
theorem K.ep {u v : List Int} (h : K u v) (i : Int) : ep u i = ep v i ∧ ph u i = ph v i := by
  induction h with
  | refl _ => exact ⟨rfl, rfl⟩
  | step u v k =>
    obtain ⟨e1, e2⟩ := kt_ep k i
    simp only [ep_app, ph_app, e1, e2]
    exact ⟨trivial, trivial⟩
  | symm _ ih => exact ⟨ih.1.symm, ih.2.symm⟩
  | trans _ _ h1 h2 => exact ⟨h1.1.trans h2.1, h1.2.trans h2.2⟩
theorem K.raise {u v : List Int} (h : K u v) (i : Int) : OK2 (raise u i) (raise v i) := by
  induction h with
  | refl _ => exact .rfl'
  | @step u v t t' k =>
    obtain ⟨e1, e2⟩ := kt_ep k i
    have k' := kk k
    rw [raise_app, raise_app u, raise_app t, raise_app t', ep_app, ep_app t', e1, e2]
    split
    · split
      · exact (OK2.mp OK2.rfl' (fun p q hp => (k'.left p).trans (hp.right t'))).mp fun p q hp => hp.right u
      · exact ((kt_raise k i).mp fun p q hp => hp.left v).mp fun p q hp => hp.right u
    · exact OK2.mp OK2.rfl' fun p q hp => (hp.left _).trans ((k'.left v).right q)
  | symm _ ih => exact ih.sym
  | trans _ _ h1 h2 => exact h1.tr h2
theorem K.lower {u v : List Int} (h : K u v) (i : Int) : OK2 (lower u i) (lower v i) := by
  induction h with
  | refl _ => exact .rfl'
  | @step u v t t' k =>
    obtain ⟨e1, e2⟩ := kt_ep k i
    have k' := kk k
    rw [lower_app, lower_app u, lower_app t, lower_app t', ep_app, ep_app t', e1, e2]
    split
    · exact OK2.mp OK2.rfl' fun p q hp => (hp.left _).trans ((k'.left v).right q)
    · split
      · exact ((kt_lower k i).mp fun p q hp => hp.left v).mp fun p q hp => hp.right u
      · exact (OK2.mp OK2.rfl' (fun p q hp => (k'.left p).trans (hp.right t'))).mp fun p q hp => hp.right u
  | symm _ ih => exact ih.sym
  | trans _ _ h1 h2 => exact h1.tr h2
end DL
namespace DL
/-! ### raising and lowering undo each other -/
theorem raise_ep (i : Int) : ∀ w : List Int, raise w i = none ↔ ep w i = 0
  | [] => by simp
  | a :: v => by
    have ih := raise_ep i v
    rw [raise_cons, ep_cons]
    by_cases c : a = i
    · have n : ¬ a = i + 1 := by omega
      simp only [if_pos c, if_neg n]
      split
      · rw [Option.map_eq_none_iff, ih]; omega
      · constructor
        · intro _; omega
        · intro _; rfl
    · simp only [if_neg c]
      by_cases d : a = i + 1
      · simp only [if_pos d]
        split
        · rw [Option.map_eq_none_iff, ih]; omega
        · constructor
          · intro h; simp at h
          · intro h; omega
      · simp only [if_neg d]
        split
        · rw [Option.map_eq_none_iff, ih]; omega
        · constructor
          · intro h; omega
          · intro h; rfl
theorem raise_back (i : Int) : ∀ {w u : List Int}, raise w i = some u → lower u i = some w ∧ ep u i + 1 = ep w i ∧ ph u i = ph w i + 1 ∧ u.length = w.length
  | [], u, h => by simp at h
  | a :: v, u, h => by
    rw [raise_cons] at h
    by_cases q : (if a = i then 1 else 0) < ep v i
    · rw [if_pos q] at h
      cases e : raise v i with
      | none => rw [e] at h; simp at h
      | some u' =>
        rw [e] at h
        obtain rfl : a :: u' = u := by simpa using h
        obtain ⟨h1, h2, h3, h4⟩ := raise_back i e
        rw [lower_cons, ep_cons, ph_cons, ep_cons, ph_cons]
        generalize (if a = i then 1 else 0) = d at *
        rw [if_neg (by omega), h1]
        exact ⟨rfl, by omega, by omega, by rw [List.length_cons, List.length_cons, h4]⟩
    · rw [if_neg q] at h
      by_cases c : a = i + 1
      · rw [if_pos c] at h
        obtain rfl : i :: v = u := by simpa using h
        have n : ¬ a = i := by omega
        have m : ¬ i = i + 1 := by omega
        rw [if_neg n] at q
        rw [lower_cons, ep_cons, ph_cons, ep_cons, ph_cons, if_pos rfl, if_pos (by omega), if_neg m, if_pos c, if_neg n, c]
        exact ⟨rfl, by omega, by omega, rfl⟩
      · rw [if_neg c] at h; simp at h
theorem lower_ph (i : Int) : ∀ w : List Int, lower w i = none ↔ ph w i = 0
  | [] => by simp
  | a :: v => by
    have ih := lower_ph i v
    rw [lower_cons, ph_cons]
    generalize (if a = i then 1 else 0) = d at *
    split
    · constructor
      · intro h; simp at h
      · intro h; omega
    · rw [Option.map_eq_none_iff, ih]; omega
theorem lower_back (i : Int) : ∀ {w u : List Int}, lower w i = some u → raise u i = some w ∧ ep u i = ep w i + 1 ∧ ph u i + 1 = ph w i ∧ u.length = w.length
  | [], u, h => by simp at h
  | a :: v, u, h => by
    rw [lower_cons] at h
    by_cases q : ep v i < (if a = i then 1 else 0)
    · rw [if_pos q] at h
      obtain rfl : (i + 1) :: v = u := by simpa using h
      by_cases c : a = i
      · rw [if_pos c] at q
        have n : ¬ i + 1 = i := by omega
        have m : ¬ a = i + 1 := by omega
        rw [raise_cons, ep_cons, ph_cons, ep_cons, ph_cons, if_neg n, if_neg (by omega), if_pos rfl, if_pos rfl, if_neg m, if_pos c, c]
        exact ⟨rfl, by omega, by omega, rfl⟩
      · rw [if_neg c] at q; omega
    · rw [if_neg q] at h
      cases e : lower v i with
      | none => rw [e] at h; simp at h
      | some u' =>
        rw [e] at h
        obtain rfl : a :: u' = u := by simpa using h
        obtain ⟨h1, h2, h3, h4⟩ := lower_back i e
        rw [raise_cons, ep_cons, ph_cons, ep_cons, ph_cons]
        generalize (if a = i then 1 else 0) = d at *
        rw [if_pos (by omega), h1]
        exact ⟨rfl, by omega, by omega, by rw [List.length_cons, List.length_cons, h4]⟩
/-! ### a row raised -/
theorem ph_none {i : Int} : ∀ {w : List Int}, (∀ a ∈ w, a ≠ i) → ph w i = 0
  | [], _ => rfl
  | a :: w, h => by
    rw [ph_cons, ph_none fun b hb => h b (List.mem_cons_of_mem _ hb), if_neg (h a List.mem_cons_self)]
    omega
theorem ep_none {i : Int} : ∀ {w : List Int}, (∀ a ∈ w, a ≠ i + 1) → ep w i = 0
  | [], _ => rfl
  | a :: w, h => by
    rw [ep_cons, ep_none fun b hb => h b (List.mem_cons_of_mem _ hb), if_neg (h a List.mem_cons_self)]
    omega
theorem raise_mem (i : Int) {w u : List Int} (h : raise w i = some u) : (∃ a ∈ w, a = i + 1) ∧ ∀ a ∈ u, a ∈ w ∨ a = i := by
  induction w generalizing u with
  | nil => simp at h
  | cons b v ih =>
    rw [raise_cons] at h
    by_cases q : (if b = i then 1 else 0) < ep v i
    · rw [if_pos q] at h
      cases e : raise v i with
      | none => rw [e] at h; simp at h
      | some u' =>
        rw [e] at h
        obtain rfl : b :: u' = u := by simpa using h
        obtain ⟨⟨a, ha, ha'⟩, h2⟩ := ih e
        refine ⟨⟨a, List.mem_cons_of_mem _ ha, ha'⟩, fun c hc => ?_⟩
        rcases List.mem_cons.mp hc with rfl | hc
        · exact .inl List.mem_cons_self
        · rcases h2 c hc with m | m
          · exact .inl (List.mem_cons_of_mem _ m)
          · exact .inr m
    · rw [if_neg q] at h
      by_cases c : b = i + 1
      · rw [if_pos c] at h
        obtain rfl : i :: v = u := by simpa using h
        refine ⟨⟨b, List.mem_cons_self, c⟩, fun d hd => ?_⟩
        rcases List.mem_cons.mp hd with rfl | hd
        · exact .inr rfl
        · exact .inl (List.mem_cons_of_mem _ hd)
      · rw [if_neg c] at h; simp at h
theorem raise_row {i : Int} : ∀ {r u : List Int}, Srt r → raise r.reverse i = some u → ∃ s, u = s.reverse ∧ Srt s ∧ s.length = r.length ∧ ∀ b S, s = b :: S → ∃ a R, r = a :: R ∧ b ≤ a
  | [], u, _, h => by simp at h
  | a :: r, u, hs, h => by
    rw [List.reverse_cons, raise_app, ep_one, raise_one] at h
    by_cases c : a = i + 1
    · have z : ph r.reverse i = 0 := ph_none fun b hb => by
        have := hs.hd b (List.mem_reverse.mp hb)
        omega
      rw [z, if_pos c, if_pos (by omega), if_pos c] at h
      obtain rfl : r.reverse ++ [i] = u := by simpa using h
      refine ⟨i :: r, by simp, List.pairwise_cons.mpr ⟨fun b hb => ?_, hs.tl⟩, rfl, fun b S e => ⟨a, r, rfl, ?_⟩⟩
      · have := hs.hd b hb; omega
      · obtain ⟨rfl, -⟩ := List.cons.inj e; omega
    · rw [if_neg c, if_neg (by omega)] at h
      cases e : raise r.reverse i with
      | none => rw [e] at h; simp at h
      | some u' =>
        rw [e] at h
        obtain ⟨s, h1, h2, h3, h4⟩ := raise_row hs.tl e
        obtain ⟨⟨b, hb, hb'⟩, hm⟩ := raise_mem i e
        refine ⟨a :: s, ?_, List.pairwise_cons.mpr ⟨fun d hd => ?_, h2⟩, by rw [List.length_cons, List.length_cons, h3], fun b S e => ⟨a, r, rfl, ?_⟩⟩
        · rw [List.reverse_cons, ← h1]; simpa using h.symm
        · rcases hm d (by rw [h1]; exact List.mem_reverse.mpr hd) with m | m
          · exact hs.hd d (List.mem_reverse.mp m)
          · have := hs.hd b (List.mem_reverse.mp hb); omega
        · obtain ⟨rfl, -⟩ := List.cons.inj e; exact Int.le_refl _
/-! ### the tableau of a row, of a row and a letter below -/
theorem ri_top {x : Int} : ∀ {r : List Int}, (∀ b ∈ r, b ≤ x) → ri r x = (r ++ [x], [])
  | [], _ => rfl
  | a :: r, h => by
    have := h a List.mem_cons_self
    rw [ri_ge r (by omega), ri_top fun b hb => h b (List.mem_cons_of_mem _ hb)]
    rfl
theorem rwd_row (p : List Int) : ∀ {s : List Int}, Srt s → (∀ b ∈ p, ∀ c ∈ s, b ≤ c) → rwd p s.reverse = (p ++ s, []) := by
  intro s
  generalize hn : s.length = n
  induction n generalizing s p with
  | zero => intro _ _; obtain rfl := List.length_eq_zero_iff.mp hn; simp [rwd]
  | succ n ih =>
    intro hs hp
    obtain ⟨t, x, rfl⟩ : ∃ t x, s = t ++ [x] := by
      rcases List.eq_nil_or_concat s with rfl | ⟨l, b, rfl⟩
      · simp at hn
      · exact ⟨l, b, by simp⟩
    have ht : Srt t := (List.pairwise_append.mp hs).1
    have hx : ∀ b ∈ t, b ≤ x := fun b hb => (List.pairwise_append.mp hs).2.2 b hb x (by simp)
    rw [List.reverse_append, List.reverse_singleton, List.singleton_append, rwd, ih p (by simpa using hn) ht fun b hb c hc => hp b hb c (List.mem_append_left _ hc)]
    simp only
    rw [ri_top fun b hb => by
      rcases List.mem_append.mp hb with m | m
      · exact hp b m x (by simp)
      · exact hx b m]
    simp
theorem pL_row {r : List Int} (h : Srt r) (hn : r ≠ []) : pL r.reverse = [r] := by
  rw [pL_cons (by simpa using hn), rwd_row [] h (by simp)]
  rfl
theorem pL_row1 {a c : Int} {r : List Int} (h : Srt (a :: r)) (hc : a < c) : pL ((a :: r).reverse ++ [c]) = [a :: r, [c]] := by
  have e : rwd [] ((a :: r).reverse ++ [c]) = (a :: r, [c]) := by
    have : ∀ w : List Int, rwd [] (w ++ [c]) = ((rwd [c] w).1, (rwd [c] w).2) := by
      intro w
      induction w with
      | nil => rfl
      | cons b w ih => rw [List.cons_append, rwd, ih, rwd]
    rw [this, List.reverse_cons]
    have t : ∀ w : List Int, rwd [c] (w ++ [a]) = ((rwd [a] w).1, (rwd [a] w).2 ++ [c]) := by
      intro w
      induction w with
      | nil => simp [rwd, ri, hc]
      | cons b w ih => rw [List.cons_append, rwd, ih, rwd]; simp
    rw [t, rwd_row [a] h.tl (by simpa using h.hd)]
    rfl
  rw [pL_cons (by simp), e]
  rfl
/-! ### a letter into a row, raised -/
theorem rwd_cons1 {r : List Int} (h : Srt r) (a : Int) : rwd [] (a :: r.reverse) = ri r a := by
  rw [rwd, rwd_row [] h (by simp)]
  simp
theorem ri_raise {i a : Int} {r u : List Int} (hs : Srt r) (h : raise (a :: r.reverse) i = some u) :
    ∃ a1 r1, u = a1 :: r1.reverse ∧ Srt r1 ∧ r1.length = r.length ∧ raise ((ri r a).1.reverse ++ (ri r a).2) i = some ((ri r1 a1).1.reverse ++ (ri r1 a1).2) ∧ (ri r1 a1).1.length = (ri r a).1.length ∧ (ri r1 a1).2.length = (ri r a).2.length := by
  obtain ⟨a1, r1, rfl, s1, l1⟩ : ∃ a1 r1, u = a1 :: r1.reverse ∧ Srt r1 ∧ r1.length = r.length := by
    rw [raise_cons] at h
    by_cases q : (if a = i then 1 else 0) < ep r.reverse i
    · rw [if_pos q] at h
      cases e : raise r.reverse i with
      | none => rw [e] at h; simp at h
      | some u' =>
        rw [e] at h
        obtain ⟨s, h1, h2, h3, -⟩ := raise_row hs e
        exact ⟨a, s, by rw [← h1]; simpa using h.symm, h2, h3⟩
    · rw [if_neg q] at h
      by_cases c : a = i + 1
      · rw [if_pos c] at h
        exact ⟨i, r, by simpa using h.symm, hs, rfl⟩
      · rw [if_neg c] at h; simp at h
  refine ⟨a1, r1, rfl, s1, l1, ?_⟩
  have k := (k_ri (x := a) hs).raise i
  rw [h] at k
  rcases k with ⟨h1, -⟩ | ⟨u, v, h1, h2, k⟩
  · simp at h1
  obtain rfl : a1 :: r1.reverse = u := by simpa using h1
  have p1 := k.pL
  rw [pL_cons (by simp), rwd_cons1 s1] at p1
  have sr := ri_srt (x := a) hs
  -- v is a row, or a row and a letter
  have key : v = (ri r1 a1).1.reverse ++ (ri r1 a1).2 ∧ (ri r1 a1).1.length = (ri r a).1.length ∧ (ri r1 a1).2.length = (ri r a).2.length := by
    rcases ri_out (r := r) (x := a) with e | ⟨c, e, cr, ac⟩
    · rw [e, List.append_nil] at h2
      obtain ⟨s, v1, v2, v3, -⟩ := raise_row sr h2
      have sn : s ≠ [] := fun w => by
        have : (ri r a).1.length ≠ 0 := fun w => ri_ne (List.length_eq_zero_iff.mp w)
        rw [w] at v3; simp at v3; omega
      rw [v1, pL_row v2 sn] at p1
      obtain ⟨q1, q2⟩ := List.cons.inj p1
      have q3 : (ri r1 a1).2 = [] := by
        rcases ri_out (r := r1) (x := a1) with e | ⟨c, e, -, -⟩
        · exact e
        · rw [e] at q2; simp [pL, insW, bumpL] at q2
      exact ⟨by rw [v1, q1, q3, List.append_nil], by rw [q1, v3], by rw [q3, e]⟩
    · rw [e] at h2
      obtain ⟨f, R, hf⟩ : ∃ f R, (ri r a).1 = f :: R := by
        cases q : (ri r a).1 with
        | nil => exact absurd q ri_ne
        | cons f R => exact ⟨f, R, rfl⟩
      have fa : f ≤ a := by
        have m := ri_in (x := a) (r := r)
        rw [hf] at m sr
        rcases List.mem_cons.mp m with e | m
        · omega
        · exact sr.hd a m
      have shape : ∃ b S d, v = (b :: S).reverse ++ [d] ∧ Srt (b :: S) ∧ b < d ∧ (b :: S).length = (ri r a).1.length := by
        rw [raise_app, ep_one, raise_one] at h2
        by_cases w : ph (ri r a).1.reverse i < if c = i + 1 then 1 else 0
        · rw [if_pos w] at h2
          by_cases ci : c = i + 1
          · rw [if_pos ci] at h2 w
            refine ⟨f, R, i, ?_, by rw [← hf]; exact sr, ?_, by rw [hf]⟩
            · rw [← hf]; simpa using h2.symm
            · by_cases fi : f = i
              · exfalso
                have : ph (ri r a).1.reverse i ≠ 0 := by
                  rw [hf, List.reverse_cons, ph_app, ph_one, if_pos fi]
                  omega
                omega
              · omega
          · rw [if_neg ci] at w; omega
        · rw [if_neg w] at h2
          cases q : raise (ri r a).1.reverse i with
          | none => rw [q] at h2; simp at h2
          | some v' =>
            rw [q] at h2
            obtain ⟨s, v1, v2, v3, v4⟩ := raise_row sr q
            cases s with
            | nil => rw [hf] at v3; simp at v3
            | cons b S =>
              obtain ⟨a', R', ea, ba⟩ := v4 b S rfl
              rw [hf] at ea
              obtain ⟨rfl, -⟩ := List.cons.inj ea
              refine ⟨b, S, c, ?_, v2, by omega, v3⟩
              rw [← v1]; simpa using h2.symm
      obtain ⟨b, S, d, v1, v2, bd, v3⟩ := shape
      rw [v1, pL_row1 v2 bd] at p1
      obtain ⟨q1, q2⟩ := List.cons.inj p1
      have q3 : (ri r1 a1).2 = [d] := by
        rcases ri_out (r := r1) (x := a1) with e | ⟨c, e, -, -⟩
        · rw [e] at q2; simp [pL, insW] at q2
        · rw [e] at q2 ⊢; simp [pL, insW, bumpL] at q2; rw [q2]
      exact ⟨by rw [v1, q1, q3], by rw [q1, v3], by rw [q3, e]; rfl⟩
  exact ⟨by rw [h2, key.1], key.2.1, key.2.2⟩
end DL
namespace DL
/-! ### raising keeps Q -/
/-- the word of the first row and what goes on -/
def aw (w : List Int) : List Int := (rwd [] w).1.reverse ++ (rwd [] w).2
theorem k_aw : ∀ w : List Int, K w (aw w)
  | [] => .refl _
  | a :: w => by
    have k1 := (k_aw w).right [a]
    have k2 := (k_ri (x := a) (rwd_srt srt_nil w)).left (rwd [] w).2
    refine (show K (a :: w) _ from by simpa using k1).trans ?_
    unfold aw
    rw [rwd]
    simpa using k2
theorem raise_len {w u : List Int} {i : Int} (h : raise w i = some u) : u.length = w.length := (raise_back i h).2.2.2
theorem app_inj {A A' B B' : List Int} (h : A ++ B = A' ++ B') (l : A.length = A'.length) : A = A' ∧ B = B' := List.append_inj h l
theorem aw_raise {i : Int} : ∀ {w u : List Int}, raise w i = some u → raise (aw w) i = some (aw u) ∧ (rwd [] u).1.length = (rwd [] w).1.length
  | [], u, h => by simp at h
  | a :: v, u, h => by
    have eV := (k_aw v).ep i
    -- the same step behind
    obtain ⟨a1, v1, rfl, h1, l1⟩ : ∃ a1 v1, u = a1 :: v1 ∧ raise (a :: aw v) i = some (a1 :: aw v1) ∧ (rwd [] v1).1.length = (rwd [] v).1.length := by
      rw [raise_cons] at h
      rw [raise_cons, ← eV.1]
      by_cases q : (if a = i then 1 else 0) < ep v i
      · rw [if_pos q] at h ⊢
        cases e : raise v i with
        | none => rw [e] at h; simp at h
        | some v1 =>
          rw [e] at h
          obtain ⟨g1, g2⟩ := aw_raise e
          exact ⟨a, v1, by simpa using h.symm, by rw [g1]; rfl, g2⟩
      · rw [if_neg q] at h ⊢
        by_cases c : a = i + 1
        · rw [if_pos c] at h ⊢
          exact ⟨i, v, by simpa using h.symm, rfl, rfl⟩
        · rw [if_neg c] at h; simp at h
    have sR := rwd_srt srt_nil v
    have sR1 := rwd_srt srt_nil v1
    have kx := k_ri (x := a) sR
    have ex := kx.ep i
    have e2 : aw (a :: v) = ((ri (rwd [] v).1 a).1.reverse ++ (ri (rwd [] v).1 a).2) ++ (rwd [] v).2 := by unfold aw; rw [rwd]; simp
    have e3 : ∀ a1 v1, aw (a1 :: v1) = ((ri (rwd [] v1).1 a1).1.reverse ++ (ri (rwd [] v1).1 a1).2) ++ (rwd [] v1).2 := fun a1 v1 => by unfold aw; rw [rwd]; simp
    have e4 : a :: aw v = (a :: (rwd [] v).1.reverse) ++ (rwd [] v).2 := by unfold aw; simp
    have e5 : a1 :: aw v1 = (a1 :: (rwd [] v1).1.reverse) ++ (rwd [] v1).2 := by unfold aw; simp
    rw [e4, e5, raise_app] at h1
    rw [e2, e3, raise_app, ← ex.2]
    by_cases q : ph (a :: (rwd [] v).1.reverse) i < ep (rwd [] v).2 i
    · rw [if_pos q] at h1 ⊢
      cases e : raise (rwd [] v).2 i with
      | none => rw [e] at h1; simp at h1
      | some u' =>
        rw [e] at h1
        have h1 : (a :: (rwd [] v).1.reverse) ++ u' = (a1 :: (rwd [] v1).1.reverse) ++ (rwd [] v1).2 := by simpa using h1
        obtain ⟨p1, p2⟩ := app_inj h1 (by simp [l1])
        obtain ⟨rfl, p3⟩ := List.cons.inj p1
        have p3 : (rwd [] v).1 = (rwd [] v1).1 := List.reverse_inj.mp p3
        rw [rwd, rwd, ← p3, p2]
        exact ⟨rfl, rfl⟩
    · rw [if_neg q] at h1 ⊢
      cases e : raise (a :: (rwd [] v).1.reverse) i with
      | none => rw [e] at h1; simp at h1
      | some u' =>
        rw [e] at h1
        have h1 : u' ++ (rwd [] v).2 = (a1 :: (rwd [] v1).1.reverse) ++ (rwd [] v1).2 := by simpa using h1
        have lu := raise_len e
        obtain ⟨p1, p2⟩ := app_inj h1 (by rw [lu]; simp [l1])
        obtain ⟨b1, r1, q1, q2, q3, q4, q5, q6⟩ := ri_raise sR e
        rw [p1] at q1
        have q8 := List.cons.inj q1
        have q9 : (rwd [] v1).1 = r1 := List.reverse_inj.mp q8.2
        have q10 := q8.1
        subst q9
        subst q10
        rw [q4, rwd, rwd, p2]
        exact ⟨rfl, q5⟩
def shp (T : List (List Int)) : List Nat := T.map List.length
theorem shp_raise {i : Int} (n : Nat) : ∀ {w u : List Int}, w.length ≤ n → raise w i = some u → shp (pL u) = shp (pL w) := by
  induction n with
  | zero =>
    intro w u hn h
    obtain rfl := List.length_eq_zero_iff.mp (Nat.le_zero.mp hn)
    simp at h
  | succ n ih =>
    intro w u hn h
    have hw : w ≠ [] := fun e => by rw [e] at h; simp at h
    have hu : u ≠ [] := fun e => by
      have := raise_len h
      rw [e] at this
      exact hw (List.length_eq_zero_iff.mp this.symm)
    obtain ⟨h1, h2⟩ := aw_raise h
    have lw := rwd_len [] w
    have ln : (rwd [] w).1.length ≠ 0 := fun e => rwd_ne [] hw (List.length_eq_zero_iff.mp e)
    rw [List.length_nil] at lw
    rw [pL_cons hw, pL_cons hu]
    unfold aw at h1
    rw [raise_app] at h1
    show _ :: shp _ = _ :: shp _
    by_cases q : ph (rwd [] w).1.reverse i < ep (rwd [] w).2 i
    · rw [if_pos q] at h1
      cases e : raise (rwd [] w).2 i with
      | none => rw [e] at h1; simp at h1
      | some u' =>
        rw [e] at h1
        have h1 : (rwd [] w).1.reverse ++ u' = (rwd [] u).1.reverse ++ (rwd [] u).2 := by simpa using h1
        obtain ⟨p1, p2⟩ := app_inj h1 (by simp [h2])
        rw [h2, ← p2, ih (by omega) e]
    · rw [if_neg q] at h1
      cases e : raise (rwd [] w).1.reverse i with
      | none => rw [e] at h1; simp at h1
      | some u' =>
        rw [e] at h1
        have h1 : u' ++ (rwd [] w).2 = (rwd [] u).1.reverse ++ (rwd [] u).2 := by simpa using h1
        obtain ⟨p1, p2⟩ := app_inj h1 (by rw [raise_len e]; simp [h2])
        rw [h2, ← p2]
/-! ### Q, box by box -/
theorem bump_shp : ∀ (T : List (List Int)) (x : Int) (j : Nat), ((bumpL T x).1.getD j []).length = (T.getD j []).length + if j = (bumpL T x).2 then 1 else 0
  | [], x, j => by
    show ([[x]].getD j []).length = ([].getD j []).length + if j = 0 then 1 else 0
    cases j with
    | zero => rfl
    | succ j => simp
  | r :: T, x, j => by
    have l := ri_len (r := r) (x := x)
    rcases ri_out (r := r) (x := x) with e | ⟨c, e, -, -⟩
    · rw [e] at l
      rw [bump_no _ e]
      cases j with
      | zero => simpa using l
      | succ j => simp
    · rw [e] at l
      rw [bump_on _ e]
      cases j with
      | zero => simpa using l
      | succ j =>
        have := bump_shp T c j
        simp only [List.getD_cons_succ]
        rw [this]
        by_cases q : j = (bumpL T c).2
        · simp [q]
        · have : ¬ j + 1 = (bumpL T c).2 + 1 := by omega
          simp [q, this]
theorem shp_at {T T' : List (List Int)} (h : shp T = shp T') (j : Nat) : (T.getD j []).length = (T'.getD j []).length := by
  have : ∀ T : List (List Int), (T.getD j []).length = (shp T).getD j 0 := fun T => by
    unfold shp
    simp only [List.getD_eq_getElem?_getD, List.getElem?_map]
    cases T[j]? <;> rfl
  rw [this, this, h]
theorem bump_same {T T' : List (List Int)} {x x' : Int} (h : shp T = shp T') (h' : shp (bumpL T x).1 = shp (bumpL T' x').1) : (bumpL T x).2 = (bumpL T' x').2 := by
  have a := bump_shp T x (bumpL T x).2
  have b := bump_shp T' x' (bumpL T x).2
  rw [shp_at h', shp_at h, b, if_pos rfl] at a
  by_cases q : (bumpL T x).2 = (bumpL T' x').2
  · exact q
  · rw [if_neg q] at a; omega
theorem q_raise {i : Int} : ∀ {w u : List Int}, raise w i = some u → (pairL u).2 = (pairL w).2
  | [], u, h => by simp at h
  | a :: v, u, h => by
    have hs := shp_raise (a :: v).length (Nat.le_refl _) h
    obtain ⟨a1, v1, rfl, hv⟩ : ∃ a1 v1, u = a1 :: v1 ∧ (v1 = v ∨ raise v i = some v1) := by
      rw [raise_cons] at h
      by_cases q : (if a = i then 1 else 0) < ep v i
      · rw [if_pos q] at h
        cases e : raise v i with
        | none => rw [e] at h; simp at h
        | some v1 => rw [e] at h; exact ⟨a, v1, by simpa using h.symm, .inr rfl⟩
      · rw [if_neg q] at h
        by_cases c : a = i + 1
        · rw [if_pos c] at h; exact ⟨i, v, by simpa using h.symm, .inl rfl⟩
        · rw [if_neg c] at h; simp at h
    have hv' : (pairL v1).2 = (pairL v).2 ∧ shp (pL v1) = shp (pL v) ∧ v1.length = v.length := by
      rcases hv with rfl | hv
      · exact ⟨rfl, rfl, rfl⟩
      · exact ⟨q_raise hv, shp_raise v.length (Nat.le_refl _) hv, raise_len hv⟩
    have hs' : shp (bumpL (pL v1) a1).1 = shp (bumpL (pL v) a).1 := hs
    have e := bump_same hv'.2.1 hs'
    rw [pairL, pairL, pL_pair, pL_pair, e, hv'.1, hv'.2.2]
theorem q_lower {i : Int} {w u : List Int} (h : lower w i = some u) : (pairL u).2 = (pairL w).2 := (q_raise (lower_back i h).1).symm
theorem shp_q : ∀ w : List Int, shp (pairL w).1 = shp (pairL w).2
  | [] => rfl
  | a :: w => by
    have ih := shp_q w
    have l := pairL_len w
    rw [pairL]
    simp only
    have b := bump_shp (pairL w).1 a
    have bl := bumpL_len (rs := (pairL w).1) (x := a)
    have al := addBox_len (q := (pairL w).2) (i := (bumpL (pairL w).1 a).2) (v := (w.length : Int) + 1)
    generalize (pairL w).1 = T at *
    generalize (pairL w).2 = Q at *
    generalize (bumpL T a).2 = i at *
    generalize (bumpL T a).1 = T1 at *
    have two : ∀ {A B : List (List Int)}, A.length = B.length → (∀ j, (A.getD j []).length = (B.getD j []).length) → shp A = shp B := fun {A B} hl h => by
      apply List.ext_getElem
      · unfold shp; simpa using hl
      · intro j h1 h2
        have := h j
        unfold shp at *
        rw [List.length_map] at h1 h2
        simpa [h1, h2] using this
    refine two ?_ fun j => ?_
    · rw [al]; split <;> omega
    · rw [b j, shp_at ih]
      unfold addBox
      by_cases q : i = Q.length
      · rw [if_pos q]
        by_cases c : j = i
        · rw [if_pos c, c, q]; simp
        · rw [if_neg c]
          by_cases d : j < Q.length
          · simp [List.getElem?_append_left, d]
          · have : Q.length + 1 ≤ j := by omega
            simp [List.getElem?_eq_none, this, show Q.length ≤ j by omega]
      · rw [if_neg q]
        by_cases c : j = i
        · have hi : i < Q.length := by omega
          rw [if_pos c, c]; unfold rowAt; simp [hi]
        · rw [if_neg c]
          have : ¬ i = j := fun e => c e.symm
          simp [List.getElem?_set, this]
end DL
namespace DL
/-! ### tableaux: columns ascend -/
def Bl : List Int → List Int → Prop
  | _, [] => True
  | [], _ :: _ => False
  | a :: r, b :: s => a < b ∧ Bl r s
@[simp] theorem bl_nil (r : List Int) : Bl r [] := by cases r <;> trivial
theorem bl_ri {x : Int} : ∀ {r s : List Int}, Bl r s → Bl (ri r x).1 s
  | r, [], _ => bl_nil _
  | [], b :: s, h => h.elim
  | a :: r, b :: s, h => by
    by_cases c : x < a
    · rw [ri_lt r c]; exact ⟨by have := h.1; omega, h.2⟩
    · rw [ri_ge r c]; exact ⟨h.1, bl_ri h.2⟩
theorem bl_bump {x c : Int} : ∀ {r s : List Int}, Srt r → Bl r s → (ri r x).2 = [c] → Bl (ri r x).1 (ri s c).1
  | [], s, _, h, e => by simp [ri] at e
  | a :: r, [], hs, h, e => by
    by_cases q : x < a
    · rw [ri_lt r q] at e ⊢
      obtain rfl : a = c := by simpa using e
      exact ⟨q, bl_nil _⟩
    · rw [ri_ge r q] at e ⊢
      obtain h1 : a ≤ x := by omega
      rcases ri_out (r := r) (x := x) with w | ⟨c', w, hc, xc⟩
      · rw [w] at e; simp at e
      · rw [w] at e
        obtain rfl : c' = c := by simpa using e
        exact ⟨by omega, bl_nil _⟩
  | a :: r, b :: s, hs, h, e => by
    by_cases q : x < a
    · rw [ri_lt r q] at e ⊢
      obtain rfl : a = c := by simpa using e
      rw [ri_lt s h.1]
      exact ⟨q, h.2⟩
    · rw [ri_ge r q] at e ⊢
      by_cases w : c < b
      · rw [ri_lt s w]
        rcases ri_out (r := r) (x := x) with w' | ⟨c', w', hc, xc⟩
        · rw [w'] at e; simp at e
        · rw [w'] at e
          obtain rfl : c' = c := by simpa using e
          exact ⟨by omega, bl_ri h.2⟩
      · rw [ri_ge s w]
        exact ⟨h.1, bl_bump hs.tl h.2 e⟩
inductive Tab : List (List Int) → Prop
  | nil : Tab []
  | one {r : List Int} : Srt r → r ≠ [] → Tab [r]
  | two {r s : List Int} {T : List (List Int)} : Srt r → Bl r s → Tab (s :: T) → Tab (r :: s :: T)
theorem Bl.len : ∀ {r s : List Int}, Bl r s → s.length ≤ r.length
  | r, [], _ => Nat.zero_le _
  | [], b :: s, h => h.elim
  | a :: r, b :: s, h => by have := h.2.len; simp only [List.length_cons]; omega
theorem Tab.ne {T : List (List Int)} {r : List Int} (h : Tab (r :: T)) : r ≠ [] := by
  generalize e : r :: T = U at h
  induction h generalizing r T with
  | nil => simp at e
  | one _ h => obtain ⟨rfl, -⟩ := List.cons.inj e; exact h
  | @two r' s T' h1 h2 h3 ih =>
    obtain ⟨rfl, -⟩ := List.cons.inj e
    have := ih rfl
    intro w
    have l := h2.len
    rw [w] at l
    exact this (List.length_eq_zero_iff.mp (by simpa using l))
theorem Tab.hd {T : List (List Int)} {r : List Int} (h : Tab (r :: T)) : Srt r := by
  cases h with
  | one h _ => exact h
  | two h _ _ => exact h
theorem Tab.tl {T : List (List Int)} {r : List Int} (h : Tab (r :: T)) : Tab T := by
  cases h with
  | one _ _ => exact .nil
  | two _ _ h => exact h
theorem Tab.srt : ∀ {T : List (List Int)}, Tab T → SrtT T
  | [], _ => srtT_nil
  | r :: T, h => fun q hq => by
    rcases List.mem_cons.mp hq with rfl | hq
    · exact h.hd
    · exact h.tl.srt q hq
theorem tab_cons {r : List Int} {T : List (List Int)} (h : Srt r) (hn : r ≠ []) (hb : ∀ s S, T = s :: S → Bl r s) (hT : Tab T) : Tab (r :: T) := by
  cases T with
  | nil => exact .one h hn
  | cons s S => exact .two h (hb s S rfl) hT
theorem bump_head {T : List (List Int)} {c : Int} : ∃ S, (bumpL T c).1 = (ri (T.headD []) c).1 :: S := by
  cases T with
  | nil => exact ⟨[], rfl⟩
  | cons s S =>
    rcases ri_out (r := s) (x := c) with e | ⟨d, e, -, -⟩
    · rw [bump_no _ e]; exact ⟨S, rfl⟩
    · rw [bump_on _ e]; exact ⟨_, rfl⟩
theorem bump_tab : ∀ {T : List (List Int)} {x : Int}, Tab T → Tab (bumpL T x).1
  | [], x, _ => .one (List.pairwise_singleton _ _) (by simp)
  | r :: T, x, h => by
    rcases ri_out (r := r) (x := x) with e | ⟨c, e, -, -⟩
    · rw [bump_no _ e]
      refine tab_cons (ri_srt h.hd) ri_ne (fun s S hs => ?_) h.tl
      subst hs
      cases h with
      | two _ hb _ => exact bl_ri hb
    · rw [bump_on _ e]
      refine tab_cons (ri_srt h.hd) ri_ne (fun s S hs => ?_) (bump_tab h.tl)
      obtain ⟨S', hS⟩ := bump_head (T := T) (c := c)
      rw [hS] at hs
      obtain ⟨rfl, -⟩ := List.cons.inj hs
      cases T with
      | nil =>
        refine bl_bump h.hd (bl_nil r) e
      | cons s0 S0 =>
        cases h with
        | two h1 hb _ => exact bl_bump h1 hb e
theorem tab_pL : ∀ w : List Int, Tab (pL w)
  | [] => .nil
  | a :: w => bump_tab (tab_pL w)
/-! ### a letter taken back -/
def ur : List Int → Int → List Int × Int
  | [], c => ([], c)
  | [a], c => ([c], a)
  | a :: b :: r, c => if b < c then (a :: (ur (b :: r) c).1, (ur (b :: r) c).2) else (c :: b :: r, a)
theorem ur_ri {x c : Int} : ∀ {r : List Int}, Srt r → (ri r x).2 = [c] → ur (ri r x).1 c = (r, x)
  | [], _, e => by simp [ri] at e
  | a :: r, hs, e => by
    by_cases q : x < a
    · rw [ri_lt r q] at e ⊢
      obtain rfl : a = c := by simpa using e
      cases r with
      | nil => rfl
      | cons b r =>
        have := hs.hd b List.mem_cons_self
        show (if b < a then _ else _) = _
        rw [if_neg (by omega)]
    · rw [ri_ge r q] at e ⊢
      have ih := ur_ri hs.tl e
      have xc : x < c := by
        rcases ri_out (r := r) (x := x) with w | ⟨c', w, -, h⟩
        · rw [w] at e; simp at e
        · rw [w] at e
          obtain rfl : c' = c := by simpa using e
          exact h
      have sr := ri_srt (x := x) hs.tl
      have hin := ri_in (x := x) (r := r)
      generalize (ri r x).1 = R at *
      cases R with
      | nil => simp at hin
      | cons f R =>
        have : f ≤ x := by
          rcases List.mem_cons.mp hin with w | m
          · omega
          · exact sr.hd x m
        show (if f < c then (a :: (ur (f :: R) c).1, (ur (f :: R) c).2) else _) = _
        rw [if_pos (by omega), ih]
theorem bump_inj : ∀ {T T' : List (List Int)} {x x' : Int}, (∀ r ∈ T, r ≠ []) → (∀ r ∈ T', r ≠ []) → SrtT T → SrtT T' → bumpL T x = bumpL T' x' → T = T' ∧ x = x'
  | [], [], x, x', _, _, _, _, h => by
    simp [bumpL] at h
    exact ⟨rfl, h⟩
  | [], r :: T', x, x', h1, h2, h3, h4, h => by
    exfalso
    rcases ri_out (r := r) (x := x') with e | ⟨c, e, -, -⟩
    · rw [bump_no _ e] at h
      have l := ri_len (r := r) (x := x')
      rw [e] at l
      have : [x] = (ri r x').1 := (List.cons.inj (congrArg Prod.fst h)).1
      rw [← this] at l
      simp at l
      exact h2 r List.mem_cons_self (by simpa using l)
    · rw [bump_on _ e] at h
      have := congrArg Prod.snd h
      simp [bumpL] at this
  | r :: T, [], x, x', h1, h2, h3, h4, h => by
    exfalso
    rcases ri_out (r := r) (x := x) with e | ⟨c, e, -, -⟩
    · rw [bump_no _ e] at h
      have l := ri_len (r := r) (x := x)
      rw [e] at l
      have : (ri r x).1 = [x'] := (List.cons.inj (congrArg Prod.fst h)).1
      rw [this] at l
      simp at l
      exact h1 r List.mem_cons_self (by simpa using l)
    · rw [bump_on _ e] at h
      have := congrArg Prod.snd h
      simp [bumpL] at this
  | r :: T, r' :: T', x, x', h1, h2, h3, h4, h => by
    have no : ∀ {r : List Int} {x : Int}, (ri r x).2 = [] → (ri r x).1 = r ++ [x] := fun {r x} e => by
      cases q : gts x r with
      | nil => rw [(ri_gts x r).1 q]
      | cons k t => rw [(ri_gts x r).2 k t q] at e; simp at e
    rcases ri_out (r := r) (x := x) with e | ⟨c, e, -, -⟩
    · rcases ri_out (r := r') (x := x') with e' | ⟨c', e', -, -⟩
      · rw [bump_no _ e, bump_no _ e'] at h
        obtain ⟨g1, g2⟩ := List.cons.inj (congrArg Prod.fst h)
        rw [no e, no e'] at g1
        obtain ⟨g3, g4⟩ := List.append_inj' g1 rfl
        exact ⟨by rw [g3, g2], by simpa using g4⟩
      · rw [bump_no _ e, bump_on _ e'] at h
        have := congrArg Prod.snd h
        simp at this
    · rcases ri_out (r := r') (x := x') with e' | ⟨c', e', -, -⟩
      · rw [bump_on _ e, bump_no _ e'] at h
        have := congrArg Prod.snd h
        simp at this
      · rw [bump_on _ e, bump_on _ e'] at h
        obtain ⟨g1, g2⟩ := List.cons.inj (congrArg Prod.fst h)
        have g3 : (bumpL T c).2 = (bumpL T' c').2 := by have := congrArg Prod.snd h; simpa using this
        obtain ⟨g4, g5⟩ := bump_inj (fun q hq => h1 q (List.mem_cons_of_mem _ hq)) (fun q hq => h2 q (List.mem_cons_of_mem _ hq)) h3.tl h4.tl (Prod.ext g2 g3)
        subst g4 g5
        have u1 := ur_ri h3.hd e
        have u2 := ur_ri h4.hd e'
        rw [g1, u2] at u1
        obtain ⟨q1, q2⟩ := Prod.mk.inj u1
        exact ⟨by rw [q1], q2.symm⟩
theorem Tab.all {T : List (List Int)} (h : Tab T) : ∀ r ∈ T, r ≠ [] := by
  induction T with
  | nil => intro r hr; cases hr
  | cons s T ih =>
    intro r hr
    rcases List.mem_cons.mp hr with rfl | hr
    · exact h.ne
    · exact ih h.tl r hr
/-! ### boxes taken back -/
theorem addBox_at (q : List (List Int)) (i : Nat) (v : Int) (hi : i ≤ q.length) (j : Nat) : (addBox q i v)[j]? = if j = i then some (rowAt q i ++ [v]) else q[j]? := by
  unfold addBox rowAt
  by_cases c : i = q.length
  · rw [if_pos c]
    by_cases d : j = i
    · rw [if_pos d, d, c]; simp
    · rw [if_neg d]
      by_cases e : j < q.length
      · rw [List.getElem?_append_left e]
      · have : q.length + 1 ≤ j := by omega
        rw [List.getElem?_eq_none (by simpa using this), List.getElem?_eq_none (by omega)]
  · rw [if_neg c]
    by_cases d : j = i
    · rw [if_pos d, d, List.getElem?_set_self (by omega)]
    · rw [if_neg d, List.getElem?_set_ne (fun e => d e.symm)]
theorem addBox_inj {q q' : List (List Int)} {i i' : Nat} {v : Int} (hi : i ≤ q.length) (hi' : i' ≤ q'.length) (n : ∀ r ∈ q, r ≠ []) (n' : ∀ r ∈ q', r ≠ []) (m : ∀ r ∈ q, ∀ a ∈ r, a < v) (m' : ∀ r ∈ q', ∀ a ∈ r, a < v) (h : addBox q i v = addBox q' i' v) : q = q' ∧ i = i' := by
  have at1 := addBox_at q i v hi
  have at2 := addBox_at q' i' v hi'
  rw [h] at at1
  have e : i = i' := by
    have a := at1 i
    rw [at2 i, if_pos rfl] at a
    by_cases c : i = i'
    · exact c
    · rw [if_neg c] at a
      have hm := List.mem_of_getElem? a
      have := m' _ hm v (by simp)
      omega
  subst e
  refine ⟨List.ext_getElem? fun j => ?_, rfl⟩
  have a := at1 j
  rw [at2 j] at a
  by_cases c : j = i
  · rw [if_pos c, if_pos c] at a
    have a := List.append_cancel_right (Option.some.inj a)
    subst c
    unfold rowAt at a
    by_cases d : j < q.length
    · by_cases d' : j < q'.length
      · rw [List.getElem?_eq_getElem d, List.getElem?_eq_getElem d']
        simp only [List.getD_eq_getElem?_getD, List.getElem?_eq_getElem d, List.getElem?_eq_getElem d', Option.getD_some] at a
        rw [a]
      · simp only [List.getD_eq_getElem?_getD, List.getElem?_eq_getElem d, List.getElem?_eq_none (Nat.le_of_not_lt d'), Option.getD_some, Option.getD_none] at a
        exact absurd a.symm (n _ (List.getElem_mem d))
    · by_cases d' : j < q'.length
      · simp only [List.getD_eq_getElem?_getD, List.getElem?_eq_getElem d', List.getElem?_eq_none (Nat.le_of_not_lt d), Option.getD_some, Option.getD_none] at a
        exact absurd a (n' _ (List.getElem_mem d'))
      · rw [List.getElem?_eq_none (by omega), List.getElem?_eq_none (by omega)]
  · rw [if_neg c, if_neg c] at a
    exact a.symm
theorem addBox_mem {q : List (List Int)} {i : Nat} {v : Int} (hi : i ≤ q.length) {r : List Int} (h : r ∈ addBox q i v) : r ∈ q ∨ r = rowAt q i ++ [v] := by
  obtain ⟨j, hj⟩ := List.getElem?_of_mem h
  rw [addBox_at q i v hi j] at hj
  by_cases c : j = i
  · rw [if_pos c] at hj; exact .inr (Option.some.inj hj).symm
  · rw [if_neg c] at hj; exact .inl (List.mem_of_getElem? hj)
theorem rowAt_le {q : List (List Int)} {i : Nat} {P : Int → Prop} (h : ∀ r ∈ q, ∀ a ∈ r, P a) : ∀ a ∈ rowAt q i, P a := by
  intro a ha
  by_cases c : i < q.length
  · exact h _ (rowAt_mem c) a ha
  · unfold rowAt at ha
    rw [List.getD_eq_getElem?_getD, List.getElem?_eq_none (by omega)] at ha
    simp at ha
theorem bump_le (T : List (List Int)) (x : Int) : (bumpL T x).2 ≤ T.length := by
  rcases bumpL_len (rs := T) (x := x) with ⟨a, -⟩ | ⟨a, -⟩ <;> omega
theorem q_lt : ∀ w : List Int, ∀ r ∈ (pairL w).2, ∀ a ∈ r, a < (w.length : Int) + 1
  | [], r, hr => by simp [pairL] at hr
  | x :: w, r, hr => by
    have ih := q_lt w
    rw [pairL] at hr
    have hi : (bumpL (pairL w).1 x).2 ≤ (pairL w).2.length := by rw [(pairL_len w).1]; exact bump_le _ _
    intro a ha
    rw [List.length_cons]
    rcases addBox_mem hi hr with h | rfl
    · have := ih r h a ha; omega
    · rcases List.mem_append.mp ha with m | m
      · have := rowAt_le (P := fun a => a < (w.length : Int) + 1) ih a m
        omega
      · rw [List.mem_singleton.mp m]; omega
theorem q_ne : ∀ w : List Int, ∀ r ∈ (pairL w).2, r ≠ [] := fun w r hr e => by
  have := ((pairL_good w).2 r hr).1
  rw [e] at this
  simp at this
/-- words with one pair are equal -/
theorem pair_inj : ∀ {w u : List Int}, w.length = u.length → pairL w = pairL u → w = u
  | [], u, l, _ => (List.length_eq_zero_iff.mp l.symm).symm
  | a :: w, [], l, _ => by simp at l
  | a :: w, b :: u, l, h => by
    have l : w.length = u.length := by simpa using l
    rw [pairL, pairL, l] at h
    have h1 := congrArg Prod.fst h
    have h2 := congrArg Prod.snd h
    simp only at h1 h2
    have hw : (bumpL (pairL w).1 a).2 ≤ (pairL w).2.length := by rw [(pairL_len w).1]; exact bump_le _ _
    have hu : (bumpL (pairL u).1 b).2 ≤ (pairL u).2.length := by rw [(pairL_len u).1]; exact bump_le _ _
    obtain ⟨g1, g2⟩ := addBox_inj hw hu (q_ne w) (q_ne u) (by rw [← l]; exact q_lt w) (q_lt u) h2
    rw [pL_pair, pL_pair] at h1 g2
    obtain ⟨g3, g4⟩ := bump_inj (tab_pL w).all (tab_pL u).all (tab_pL w).srt (tab_pL u).srt (Prod.ext h1 g2)
    rw [g4, pair_inj l (Prod.ext (by rw [pL_pair, pL_pair]; exact g3) g1)]
/-! ### highest words -/
def Hi (M : Int) (w : List Int) : Prop := ∀ i : Int, 1 ≤ i → i ≤ M → ep w i = 0
theorem ep_row {i : Int} : ∀ {r : List Int}, Srt r → ep r.reverse i = r.count (i + 1)
  | [], _ => rfl
  | a :: r, h => by
    rw [List.reverse_cons, ep_app, ep_one, ep_row h.tl, List.count_cons]
    by_cases c : a = i + 1
    · have : ph r.reverse i = 0 := ph_none fun b hb => by
        have := h.hd b (List.mem_reverse.mp hb)
        omega
      simp [c, this]
    · simp [c]
theorem bl_gt {m : Int} : ∀ {r s : List Int}, Bl r s → (∀ a ∈ r, m ≤ a) → ∀ b ∈ s, m + 1 ≤ b
  | _, [], _, _, b, hb => by cases hb
  | [], _ :: _, h, _, _, _ => h.elim
  | a :: r, b :: s, h, hr, d, hd => by
    rcases List.mem_cons.mp hd with rfl | hd
    · have := hr a List.mem_cons_self
      have := h.1
      omega
    · exact bl_gt h.2 (fun a ha => hr a (List.mem_cons_of_mem _ ha)) d hd
theorem hi_rows {M : Int} : ∀ (T : List (List Int)) (k : Int) , Tab T → 1 ≤ k → (∀ r ∈ T, ∀ a ∈ r, k ≤ a ∧ a ≤ M + 1) → (∀ i, k ≤ i → i ≤ M → ep (rd T) i = 0) → T = T.mapIdx fun j r => List.replicate r.length (k + j)
  | [], k, _, _, _, _ => rfl
  | r :: T, k, hT, k1, hm, he => by
    have e : ∀ i, ep (rd (r :: T)) i = ep r.reverse i + (ep (rd T) i - ph r.reverse i) := fun i => ep_app _ _ i
    have r1 : ∀ a ∈ r, a = k := fun a ha => by
      obtain ⟨a1, a2⟩ := hm r List.mem_cons_self a ha
      by_cases c : a = k
      · exact c
      · exfalso
        have := he (a - 1) (by omega) (by omega)
        rw [e, ep_row hT.hd] at this
        have p : 0 < r.count (a - 1 + 1) := List.count_pos_iff.mpr (by rw [show a - 1 + 1 = a by omega]; exact ha)
        omega
    have hT' : ∀ q ∈ T, ∀ a ∈ q, k + 1 ≤ a ∧ a ≤ M + 1 := by
      -- the rows below are greater
      have : ∀ (T : List (List Int)) (r : List Int) (m : Int), Tab (r :: T) → (∀ a ∈ r, m ≤ a) → ∀ q ∈ T, ∀ a ∈ q, m + 1 ≤ a := by
        intro T
        induction T with
        | nil => intro r m _ _ q hq; cases hq
        | cons s T ih =>
          intro r m h hr
          have hs : ∀ a ∈ s, m + 1 ≤ a := by
            cases h with
            | two _ hb _ => exact bl_gt hb hr
          intro q hq
          rcases List.mem_cons.mp hq with rfl | hq
          · exact hs
          · intro a ha
            have := ih s (m + 1) h.tl hs q hq a ha
            omega
      intro q hq a ha
      exact ⟨this T r k hT (fun a ha => (hm r List.mem_cons_self a ha).1) q hq a ha, (hm q (List.mem_cons_of_mem _ hq) a ha).2⟩
    have he' : ∀ i, k + 1 ≤ i → i ≤ M → ep (rd T) i = 0 := fun i h1 h2 => by
      have := he i (by omega) h2
      rw [e] at this
      have p : ph r.reverse i = 0 := ph_none fun b hb => by
        have := r1 b (List.mem_reverse.mp hb)
        omega
      omega
    have ih := hi_rows T (k + 1) hT.tl (by omega) hT' he'
    rw [List.mapIdx_cons]
    have e1 : List.replicate r.length (k + ((0 : Nat) : Int)) = r := by
      rw [show k + ((0 : Nat) : Int) = k by omega]
      exact (List.eq_replicate_iff.mpr ⟨rfl, r1⟩).symm
    rw [e1]
    conv => lhs; rw [ih]
    congr 1
    refine congrArg (fun f => T.mapIdx f) ?_
    funext j q
    rw [show k + 1 + (j : Int) = k + ((j + 1 : Nat) : Int) by omega]
theorem rd_mem : ∀ {T : List (List Int)} {a : Int}, a ∈ rd T ↔ ∃ r ∈ T, a ∈ r
  | [], a => by simp [rd]
  | r :: T, a => by simp [rd, rd_mem (T := T)]
theorem hi_pL {M : Int} {w : List Int} (h1 : ∀ a ∈ w, 1 ≤ a ∧ a ≤ M + 1) (h : Hi M w) : pL w = (pL w).mapIdx fun j r => List.replicate r.length (1 + (j : Int)) := by
  have k := k_rd w
  refine hi_rows (M := M) (pL w) 1 (tab_pL w) (by omega) (fun r hr a ha => ?_) fun i i1 i2 => ?_
  · exact h1 a (k.perm.symm.mem_iff.mp (rd_mem.mpr ⟨r, hr, ha⟩))
  · rw [← (k.ep i).1]; exact h i i1 i2
/-- one highest word to each Q -/
theorem hi_one {M : Int} {w u : List Int} (w1 : ∀ a ∈ w, 1 ≤ a ∧ a ≤ M + 1) (u1 : ∀ a ∈ u, 1 ≤ a ∧ a ≤ M + 1) (hw : Hi M w) (hu : Hi M u) (l : w.length = u.length) (hq : (pairL w).2 = (pairL u).2) : w = u := by
  refine pair_inj l (Prod.ext ?_ hq)
  rw [pL_pair, pL_pair]
  have s : shp (pL w) = shp (pL u) := by
    rw [← pL_pair, ← pL_pair, shp_q, shp_q, hq]
  rw [hi_pL w1 hw, hi_pL u1 hu]
  have e : ∀ T : List (List Int), T.mapIdx (fun j r => List.replicate r.length (1 + (j : Int))) = (shp T).mapIdx fun j n => List.replicate n (1 + (j : Int)) := fun T => by
    unfold shp
    apply List.ext_getElem?
    intro j
    simp only [List.getElem?_mapIdx, List.getElem?_map]
    cases T[j]? <;> rfl
  rw [e, e, s]
end DL
namespace DL
/-! ### highest words, plain -/
theorem ep_cnt (i : Int) : ∀ w : List Int, w.count i + ep w i = w.count (i + 1) + ph w i
  | [] => rfl
  | a :: w => by
    have ih := ep_cnt i w
    rw [ep_cons, ph_cons, List.count_cons, List.count_cons]
    by_cases c : a = i
    · have n : ¬ i = i + 1 := by omega
      subst c
      simp [n]
      omega
    · by_cases d : a = i + 1
      · have n : ¬ i + 1 = i := by omega
        subst d
        simp [n]
        omega
      · simp [c, d]
        omega
theorem ep_pre {w : List Int} {i : Int} : ep w i = 0 ↔ ∀ s ≤ w.length, (w.take s).count (i + 1) ≤ (w.take s).count i := by
  constructor
  · intro h s hs
    have e : ep (w.take s ++ w.drop s) i = 0 := by rw [List.take_append_drop]; exact h
    rw [ep_app] at e
    have := ep_cnt i (w.take s)
    omega
  · generalize hn : w.length = n
    induction n generalizing w with
    | zero => intro _; rw [List.length_eq_zero_iff.mp hn]; rfl
    | succ n ih =>
      intro h
      obtain ⟨u, x, rfl⟩ : ∃ u x, w = u ++ [x] := by
        rcases List.eq_nil_or_concat w with rfl | ⟨l, b, rfl⟩
        · simp at hn
        · exact ⟨l, b, by simp⟩
      have hu : u.length = n := by simpa using hn
      have e := ih hu fun s hs => by
        have := h s (by omega)
        rwa [List.take_append_of_le_length (by omega)] at this
      have t := h (n + 1) (Nat.le_refl _)
      rw [List.take_of_length_le (by rw [List.length_append, hu]; simp)] at t
      rw [ep_app, e, ep_one]
      have c := ep_cnt i u
      rw [List.count_append, List.count_append] at t
      by_cases q : x = i + 1
      · have n1 : ¬ i + 1 = i := by omega
        subst q
        simp [n1] at t
        simp
        omega
      · simp [q]
theorem raise_sum {i : Int} : ∀ {w u : List Int}, raise w i = some u → u.sum + 1 = w.sum
  | [], u, h => by simp at h
  | a :: v, u, h => by
    rw [raise_cons] at h
    by_cases q : (if a = i then 1 else 0) < ep v i
    · rw [if_pos q] at h
      cases e : raise v i with
      | none => rw [e] at h; simp at h
      | some u' =>
        rw [e] at h
        obtain rfl : a :: u' = u := by simpa using h
        have := raise_sum e
        simp only [List.sum_cons]; omega
    · rw [if_neg q] at h
      by_cases c : a = i + 1
      · rw [if_pos c] at h
        obtain rfl : i :: v = u := by simpa using h
        simp only [List.sum_cons]; omega
      · rw [if_neg c] at h; simp at h
theorem lower_mem (i : Int) {w u : List Int} (h : lower w i = some u) : ∀ a ∈ u, a ∈ w ∨ a = i + 1 := by
  induction w generalizing u with
  | nil => simp at h
  | cons b v ih =>
    rw [lower_cons] at h
    by_cases q : ep v i < (if b = i then 1 else 0)
    · rw [if_pos q] at h
      obtain rfl : (i + 1) :: v = u := by simpa using h
      intro d hd
      rcases List.mem_cons.mp hd with rfl | hd
      · exact .inr rfl
      · exact .inl (List.mem_cons_of_mem _ hd)
    · rw [if_neg q] at h
      cases e : lower v i with
      | none => rw [e] at h; simp at h
      | some u' =>
        rw [e] at h
        obtain rfl : b :: u' = u := by simpa using h
        intro c hc
        rcases List.mem_cons.mp hc with rfl | hc
        · exact .inl List.mem_cons_self
        · rcases ih e c hc with m | m
          · exact .inl (List.mem_cons_of_mem _ m)
          · exact .inr m
theorem lower_len {w u : List Int} {i : Int} (h : lower w i = some u) : u.length = w.length := (lower_back i h).2.2.2
def hiB (w : List Int) : Bool := (List.range 5).all fun k => decide (raise w (1 + (k : Int)) = none)
theorem hiB_iff {w : List Int} : hiB w = true ↔ Hi 5 w := by
  unfold hiB Hi
  rw [List.all_eq_true]
  constructor
  · intro h i i1 i2
    have := h (i - 1).toNat (List.mem_range.mpr (by omega))
    rw [decide_eq_true_iff, raise_ep, show 1 + ((i - 1).toNat : Int) = i by omega] at this
    exact this
  · intro h k hk
    have := List.mem_range.mp hk
    rw [decide_eq_true_iff, raise_ep]
    exact h _ (by omega) (by omega)
def balB (w : List Int) : Bool := (List.range (w.length + 1)).all fun s => (List.range 5).all fun k => decide ((w.take s).count (1 + (k : Int) + 1) ≤ (w.take s).count (1 + (k : Int)))
theorem bal_hi (w : List Int) : balB w = hiB w := by
  have e : balB w = true ↔ hiB w = true := by
    rw [hiB_iff]
    unfold balB Hi
    rw [List.all_eq_true]
    constructor
    · intro h i i1 i2
      rw [ep_pre]
      intro s hs
      have := List.all_eq_true.mp (h s (List.mem_range.mpr (by omega))) (i - 1).toNat (List.mem_range.mpr (by omega))
      rw [decide_eq_true_iff, show 1 + ((i - 1).toNat : Int) = i by omega] at this
      exact this
    · intro h s hs
      refine List.all_eq_true.mpr fun k hk => ?_
      have := List.mem_range.mp hk
      have h2 := ep_pre.mp (h (1 + (k : Int)) (by omega) (by omega)) s (by have := List.mem_range.mp hs; omega)
      rw [decide_eq_true_iff]
      exact h2
  cases a : balB w <;> cases b : hiB w <;> simp_all
/-- a word that is highest, over another one -/
structure Top (w u : List Int) : Prop where
  h : Hi 5 u
  q : (pairL u).2 = (pairL w).2
  l : u.length = w.length
  m : ∀ a ∈ u, 1 ≤ a ∧ a ≤ 6
theorem Top.one {w u u' : List Int} (h : Top w u) (h' : Top w u') : u = u' :=
  hi_one (M := 5) h.m h'.m h.h h'.h (h.l.trans h'.l.symm) (h.q.trans h'.q.symm)
theorem Top.rows {w u : List Int} (h : Top w u) : pL u = (pL u).mapIdx fun j r => List.replicate r.length (1 + (j : Int)) := hi_pL (M := 5) h.m h.h
theorem raise_m {w u : List Int} {i : Int} (h : raise w i = some u) (i1 : 1 ≤ i) (i2 : i ≤ 6) (m : ∀ a ∈ w, 1 ≤ a ∧ a ≤ 6) : ∀ a ∈ u, 1 ≤ a ∧ a ≤ 6 := fun a ha => by
  rcases (raise_mem i h).2 a ha with q | rfl
  · exact m a q
  · exact ⟨i1, i2⟩
theorem lower_m {w u : List Int} {i : Int} (h : lower w i = some u) (i1 : 1 ≤ i) (i2 : i ≤ 5) (m : ∀ a ∈ w, 1 ≤ a ∧ a ≤ 6) : ∀ a ∈ u, 1 ≤ a ∧ a ≤ 6 := fun a ha => by
  rcases lower_mem i h a ha with q | rfl
  · exact m a q
  · omega
theorem sum_len {w : List Int} (m : ∀ a ∈ w, 1 ≤ a ∧ a ≤ 6) : (w.length : Int) ≤ w.sum ∧ w.sum ≤ 6 * w.length := by
  induction w with
  | nil => simp
  | cons a w ih =>
    have h1 := m a List.mem_cons_self
    have h2 := ih fun b hb => m b (List.mem_cons_of_mem _ hb)
    simp only [List.sum_cons, List.length_cons]
    omega
end DL
namespace DL
/-! ### a letter taken back out of a tableau -/
/-- without the last box of the first row -/
def dropB (r : List Int) (T : List (List Int)) : List (List Int) := if r.length = 1 then [] else r.dropLast :: T
def unb : List (List Int) → Nat → List (List Int) × Int
  | [], _ => ([], 0)
  | r :: T, 0 => (dropB r T, r.getLastD 0)
  | r :: T, i + 1 => ((ur r (unb T i).2).1 :: (unb T i).1, (ur r (unb T i).2).2)
theorem ur_split {c : Int} : ∀ {r : List Int}, Srt r → r ≠ [] → (∀ a R, r = a :: R → a < c) → ∃ A B, r = A ++ (ur r c).2 :: B ∧ (ur r c).1 = A ++ c :: B ∧ (ur r c).2 < c ∧ ∀ b ∈ B, c ≤ b
  | [], _, hn, _ => absurd rfl hn
  | [a], _, _, h => ⟨[], [], rfl, rfl, h a [] rfl, fun b hb => by cases hb⟩
  | a :: b :: r, hs, _, h => by
    have ha := h a (b :: r) rfl
    by_cases q : b < c
    · obtain ⟨A, B, h1, h2, h3, h4⟩ := ur_split (c := c) hs.tl (by simp) (fun a' R e => by obtain ⟨rfl, -⟩ := List.cons.inj e; exact q)
      have e : ur (a :: b :: r) c = (a :: (ur (b :: r) c).1, (ur (b :: r) c).2) := if_pos q
      rw [e]
      refine ⟨a :: A, B, ?_, by rw [h2]; rfl, h3, h4⟩
      show a :: b :: r = a :: (A ++ (ur (b :: r) c).2 :: B)
      rw [← h1]
    · have e : ur (a :: b :: r) c = (c :: b :: r, a) := if_neg q
      rw [e]
      refine ⟨[], b :: r, rfl, rfl, ha, fun x hx => ?_⟩
      rcases List.mem_cons.mp hx with rfl | hx
      · omega
      · have := hs.tl.hd x hx; omega
theorem srt_app {A B : List Int} : Srt (A ++ B) ↔ Srt A ∧ Srt B ∧ ∀ a ∈ A, ∀ b ∈ B, a ≤ b := List.pairwise_append
theorem ri_mid {A B : List Int} {x c : Int} (hs : Srt (A ++ x :: B)) (hx : x < c) : ri (A ++ c :: B) x = (A ++ x :: B, [c]) := by
  induction A with
  | nil => exact ri_lt B hx
  | cons a A ih =>
    have ha : a ≤ x := hs.hd x (by simp)
    rw [List.cons_append, ri_ge _ (by omega), ih hs.tl]
    rfl
theorem ri_ur {c : Int} {r : List Int} (hs : Srt r) (hn : r ≠ []) (h : ∀ a R, r = a :: R → a < c) : ri (ur r c).1 (ur r c).2 = (r, [c]) := by
  obtain ⟨A, B, h1, h2, h3, h4⟩ := ur_split hs hn h
  rw [h2]
  conv => rhs; rw [h1]
  exact ri_mid (by rw [← h1]; exact hs) h3
theorem ur_srt {c : Int} {r : List Int} (hs : Srt r) (hn : r ≠ []) (h : ∀ a R, r = a :: R → a < c) : Srt (ur r c).1 := by
  obtain ⟨A, B, h1, h2, h3, h4⟩ := ur_split hs hn h
  rw [h2]
  rw [h1] at hs
  obtain ⟨s1, s2, s3⟩ := srt_app.mp hs
  refine srt_app.mpr ⟨s1, List.pairwise_cons.mpr ⟨h4, s2.tl⟩, fun a ha b hb => ?_⟩
  have := s3 a ha _ List.mem_cons_self
  rcases List.mem_cons.mp hb with rfl | hb
  · omega
  · exact s3 a ha b (List.mem_cons_of_mem _ hb)
theorem ur_len {c : Int} {r : List Int} (hs : Srt r) (hn : r ≠ []) (h : ∀ a R, r = a :: R → a < c) : (ur r c).1.length = r.length := by
  obtain ⟨A, B, h1, h2, h3, h4⟩ := ur_split hs hn h
  rw [h2]
  conv => rhs; rw [h1]
  simp
/-- the columns still ascend -/
theorem bl_ge {c : Int} : ∀ {r B : List Int}, Bl r B → (∀ b ∈ B, c < b) → Bl (ur r c).1 B
  | r, [], _, _ => bl_nil _
  | [], _ :: _, h, _ => h.elim
  | [a], b :: B, h, hb => ⟨hb b List.mem_cons_self, h.2⟩
  | a :: a2 :: r, b :: B, h, hb => by
    by_cases q : a2 < c
    · have e : ur (a :: a2 :: r) c = (a :: (ur (a2 :: r) c).1, (ur (a2 :: r) c).2) := if_pos q
      rw [e]
      exact ⟨h.1, bl_ge h.2 fun x hx => hb x (List.mem_cons_of_mem _ hx)⟩
    · have e : ur (a :: a2 :: r) c = (c :: a2 :: r, a) := if_neg q
      rw [e]
      exact ⟨hb b List.mem_cons_self, h.2⟩
theorem bl_un {c : Int} : ∀ {r A B B' : List Int}, Srt r → Srt (A ++ c :: B) → Bl r (A ++ c :: B) → (B' = [] ∨ ∃ d, B' = d :: B ∧ c < d) → (∀ b ∈ B', c < b) → Bl (ur r c).1 (A ++ B')
  | [], A, B, B', _, _, h, _, _ => by cases A <;> exact h.elim
  | a0 :: r0, [], B, B', hr, hs, h, hB, hb => by
    rcases hB with rfl | ⟨d, rfl, hd⟩
    · exact bl_nil _
    · cases r0 with
      | nil =>
        show Bl [c] (d :: B)
        exact ⟨hd, h.2⟩
      | cons b r1 =>
        by_cases q : b < c
        · have e : ur (a0 :: b :: r1) c = (a0 :: (ur (b :: r1) c).1, (ur (b :: r1) c).2) := if_pos q
          rw [e]
          exact ⟨by have := h.1; show a0 < d; omega, bl_ge h.2 fun x hx => hb x (List.mem_cons_of_mem _ hx)⟩
        · have e : ur (a0 :: b :: r1) c = (c :: b :: r1, a0) := if_neg q
          rw [e]
          exact ⟨hd, h.2⟩
  | a0 :: r0, a :: A, B, B', hr, hs, h, hB, hb => by
    cases r0 with
    | nil => have h2 := h.2; cases A <;> exact h2.elim
    | cons b r1 =>
      have q : b < c := by
        have h2 := h.2
        have hs2 := hs.tl
        cases A with
        | nil => exact h2.1
        | cons a2 A2 =>
          have := h2.1
          have := hs2.hd c (by simp)
          omega
      have e : ur (a0 :: b :: r1) c = (a0 :: (ur (b :: r1) c).1, (ur (b :: r1) c).2) := if_pos q
      rw [e]
      exact ⟨h.1, bl_un hr.tl hs.tl h.2 hB hb⟩
theorem bl_take : ∀ {r s : List Int}, Bl r s → s.length < r.length → Bl r.dropLast s
  | r, [], _, _ => bl_nil _
  | [], _ :: _, h, _ => h.elim
  | [a], b :: s, h, l => by simp at l
  | a :: a2 :: r, b :: s, h, l => by
    rw [List.dropLast_cons_of_ne_nil (by simp)]
    exact ⟨h.1, bl_take h.2 (by simpa using l)⟩
/-- a row whose last box may go -/
def Cor (T : List (List Int)) (i : Nat) : Prop := i < T.length ∧ (rowAt T (i + 1)).length < (rowAt T i).length
theorem bl_head {r s : List Int} {c : Int} (hr : Srt r) (h : Bl r s) (hc : c ∈ s) : ∀ a R, r = a :: R → a < c := by
  intro a R e
  subst e
  induction s generalizing a R with
  | nil => cases hc
  | cons b s ih =>
    rcases List.mem_cons.mp hc with rfl | hc
    · exact h.1
    · cases R with
      | nil => have := h.2; cases s with
        | nil => cases hc
        | cons _ _ => exact this.elim
      | cons a2 R =>
        have := ih hc a2 R hr.tl h.2
        have := hr.hd a2 List.mem_cons_self
        omega
theorem tab_bl0 {r s : List Int} {U : List (List Int)} (h : Tab (r :: s :: U)) : Bl r s := by cases h with | two _ hb _ => exact hb
theorem unb_all : ∀ {T : List (List Int)} {i : Nat}, Tab T → Cor T i → Tab (unb T i).1 ∧ bumpL (unb T i).1 (unb T i).2 = (T, i) ∧
    ∀ s U, T = s :: U → ∃ A B B', s = A ++ (unb T i).2 :: B ∧ (B' = [] ∨ ∃ d, B' = d :: B ∧ (unb T i).2 < d) ∧ (∀ b ∈ B', (unb T i).2 < b) ∧ ((unb T i).1 = [] ∨ ∃ U', (unb T i).1 = (A ++ B') :: U')
  | [], i, _, h => absurd h.1 (by simp)
  | r :: T, 0, hT, h => by
    obtain ⟨A, x, rfl⟩ : ∃ A x, r = A ++ [x] := by
      rcases List.eq_nil_or_concat r with rfl | ⟨l, b, rfl⟩
      · exact absurd rfl hT.ne
      · exact ⟨l, b, by simp⟩
    have hs := hT.hd
    have ex : (unb ((A ++ [x]) :: T) 0).2 = x := by simp [unb]
    have hle : ∀ b ∈ A, b ≤ x := fun b hb => (srt_app.mp hs).2.2 b hb x (by simp)
    have hc : (rowAt T 0).length < (A ++ [x]).length := h.2
    have e1 : (unb ((A ++ [x]) :: T) 0).1 = if A = [] then [] else A :: T := by
      show dropB (A ++ [x]) T = _
      unfold dropB
      by_cases c : A = []
      · rw [c, if_pos (by simp), if_pos rfl]
      · rw [if_neg (by simpa using c), if_neg c, List.dropLast_concat]
    rw [ex, e1]
    refine ⟨?_, ?_, fun s U e => ?_⟩
    · by_cases c : A = []
      · rw [if_pos c]; exact .nil
      · rw [if_neg c]
        refine tab_cons (srt_app.mp hs).1 c (fun s S e => ?_) hT.tl
        subst e
        have b : Bl (A ++ [x]) s := tab_bl0 hT
        have hc : s.length < (A ++ [x]).length := hc
        have := bl_take b hc
        rwa [List.dropLast_concat] at this
    · by_cases c : A = []
      · rw [if_pos c, c]
        rw [c] at hc
        have : T = [] := by
          cases T with
          | nil => rfl
          | cons s S =>
            have hc : s.length < ([] ++ [x]).length := hc
            have : s = [] := List.length_eq_zero_iff.mp (by simpa using hc)
            exact absurd this hT.tl.ne
        rw [this]; rfl
      · rw [if_neg c]
        have t := ri_top hle
        rw [bump_no T (by rw [t]), t]
    · obtain ⟨rfl, rfl⟩ := List.cons.inj e
      refine ⟨A, [], [], rfl, .inl rfl, (fun b hb => by cases hb), ?_⟩
      by_cases c : A = []
      · exact .inl (by rw [if_pos c])
      · exact .inr ⟨T, by rw [if_neg c]; simp⟩
  | r :: T, i + 1, hT, h => by
    have hc : Cor T i := ⟨by have := h.1; simpa using this, h.2⟩
    obtain ⟨t1, t2, t3⟩ := unb_all (i := i) hT.tl hc
    obtain ⟨s, U, rfl⟩ : ∃ s U, T = s :: U := by
      cases T with
      | nil => exact absurd hc.1 (by simp)
      | cons s U => exact ⟨s, U, rfl⟩
    obtain ⟨A, B, B', a1, a2, a3, a4⟩ := t3 s U rfl
    have hb : Bl r s := tab_bl0 hT
    have hr := hT.hd
    have rn := hT.ne
    have hm : ∀ {x : Int}, s = A ++ x :: B → x ∈ s := fun e => by rw [e]; simp
    have hm := hm a1
    have hd := bl_head hr hb hm
    have e1 : unb (r :: s :: U) (i + 1) = ((ur r (unb (s :: U) i).2).1 :: (unb (s :: U) i).1, (ur r (unb (s :: U) i).2).2) := rfl
    rw [e1]
    have rl := ur_len hr rn hd
    have ru := ri_ur hr rn hd
    refine ⟨?_, ?_, fun s' U' e => ?_⟩
    · refine tab_cons (ur_srt hr rn hd) (fun z => rn (List.length_eq_zero_iff.mp (by rw [← rl]; show (ur r (unb (s :: U) i).2).1.length = 0; rw [z]; rfl))) (fun s2 S2 e2 => ?_) t1
      rcases a4 with a4 | ⟨U', a4⟩
      · rw [a4] at e2; cases e2
      · rw [a4] at e2
        obtain ⟨rfl, -⟩ := List.cons.inj e2
        exact bl_un hr (by rw [← a1]; exact hT.tl.hd) (by rw [← a1]; exact hb) a2 a3
    · rw [bump_on _ (by rw [ru]), ru, t2]
    · obtain ⟨rfl, rfl⟩ := List.cons.inj e
      obtain ⟨A2, B2, c1, c2, c3, c4⟩ := ur_split hr rn hd
      exact ⟨A2, B2, (unb (s :: U) i).2 :: B2, c1, .inr ⟨_, rfl, c3⟩, fun b hb => by
        rcases List.mem_cons.mp hb with rfl | hb
        · exact c3
        · have := c4 b hb; omega, .inr ⟨_, by rw [c2]⟩⟩
/-- taken back what was inserted -/
theorem unb_bump : ∀ {T : List (List Int)} {x : Int}, Tab T → unb (bumpL T x).1 (bumpL T x).2 = (T, x)
  | [], x, _ => rfl
  | r :: T, x, h => by
    rcases ri_out (r := r) (x := x) with e | ⟨c, e, -, -⟩
    · rw [bump_no _ e]
      have t : (ri r x).1 = r ++ [x] := by
        cases q : gts x r with
        | nil => rw [(ri_gts x r).1 q]
        | cons k t => rw [(ri_gts x r).2 k t q] at e; simp at e
      rw [t]
      show (dropB (r ++ [x]) T, (r ++ [x]).getLastD 0) = _
      unfold dropB
      rw [if_neg (by simpa using h.ne), List.dropLast_concat]
      simp
    · rw [bump_on _ e]
      show ((ur (ri r x).1 (unb (bumpL T c).1 (bumpL T c).2).2).1 :: (unb (bumpL T c).1 (bumpL T c).2).1, (ur (ri r x).1 (unb (bumpL T c).1 (bumpL T c).2).2).2) = _
      rw [unb_bump h.tl, ur_ri h.hd e]
/-! ### each tableau of the shape of a Q -/
theorem cor_of {T : List (List Int)} (hT : Tab T) {x : Int} : Cor (bumpL T x).1 (bumpL T x).2 := by
  have b := bump_shp T x
  have l := bumpL_len (rs := T) (x := x)
  have ds : (rowAt T ((bumpL T x).2 + 1)).length ≤ (rowAt T (bumpL T x).2).length := by
    have : ∀ {T : List (List Int)}, Tab T → ∀ i, (rowAt T (i + 1)).length ≤ (rowAt T i).length := by
      intro T
      induction T with
      | nil => intro _ i; simp [rowAt]
      | cons r T ih =>
        intro h i
        cases i with
        | zero =>
          cases T with
          | nil => simp [rowAt]
          | cons s U => exact (tab_bl0 h).len
        | succ i => exact ih h.tl i
    exact this hT _
  refine ⟨by rcases l with ⟨a, b⟩ | ⟨a, b⟩ <;> omega, ?_⟩
  have b1 := b (bumpL T x).2
  have b2 := b ((bumpL T x).2 + 1)
  rw [if_pos rfl] at b1
  rw [if_neg (by omega)] at b2
  unfold rowAt at *
  omega
theorem addBox_shp {q : List (List Int)} {i : Nat} {v : Int} (hi : i ≤ q.length) (j : Nat) : ((addBox q i v).getD j []).length = (q.getD j []).length + if j = i then 1 else 0 := by
  rw [List.getD_eq_getElem?_getD, List.getD_eq_getElem?_getD, addBox_at q i v hi j]
  by_cases c : j = i
  · rw [if_pos c, if_pos c, c]
    unfold rowAt
    simp
  · rw [if_neg c, if_neg c]; rfl
theorem shp_eq {A B : List (List Int)} (hA : ∀ r ∈ A, r ≠ []) (hB : ∀ r ∈ B, r ≠ []) (h : ∀ j, (A.getD j []).length = (B.getD j []).length) : shp A = shp B := by
  have key : ∀ {A : List (List Int)}, (∀ r ∈ A, r ≠ []) → ∀ j, j < A.length ↔ 0 < (A.getD j []).length := fun {A} hA j => by
    rw [List.getD_eq_getElem?_getD]
    by_cases c : j < A.length
    · have n := hA _ (List.getElem_mem c)
      have : A[j].length ≠ 0 := fun e => n (List.length_eq_zero_iff.mp e)
      simp [c]; omega
    · simp [c]
  have hl : A.length = B.length := by
    by_cases c : A.length < B.length
    · have := (key hB A.length).mp c
      rw [← h] at this
      have := (key hA A.length).mpr this
      omega
    · by_cases d : B.length < A.length
      · have := (key hA B.length).mp d
        rw [h] at this
        have := (key hB B.length).mpr this
        omega
      · omega
  refine List.ext_getElem (by unfold shp; simpa using hl) fun j h1 h2 => ?_
  unfold shp at *
  rw [List.length_map] at h1 h2
  have := h j
  simpa [h1, h2] using this
theorem pair_any : ∀ (v : List Int) {P : List (List Int)}, Tab P → shp P = shp (pairL v).2 → ∃ w : List Int, w.length = v.length ∧ pairL w = (P, (pairL v).2)
  | [], P, hP, h => by
    have : P = [] := by
      cases P with
      | nil => rfl
      | cons r T => simp [shp, pairL] at h
    exact ⟨[], rfl, by rw [this]; rfl⟩
  | a :: v, P, hP, h => by
    have hv : (bumpL (pairL v).1 a).2 ≤ (pairL v).2.length := by rw [(pairL_len v).1]; exact bump_le _ _
    have sq : shp (bumpL (pairL v).1 a).1 = shp (pairL (a :: v)).2 := by rw [← shp_q]; rfl
    have tv : Tab (pairL v).1 := by rw [pL_pair]; exact tab_pL v
    have co := cor_of (x := a) tv
    have cP : Cor P (bumpL (pairL v).1 a).2 := by
      have e := shp_at (h.trans sq.symm)
      refine ⟨?_, ?_⟩
      · have : P.length = (bumpL (pairL v).1 a).1.length := by
          have := congrArg List.length (h.trans sq.symm)
          unfold shp at this
          simpa using this
        rw [this]; exact co.1
      · have := co.2
        unfold rowAt at this ⊢
        rw [e, e]; exact this
    obtain ⟨u1, u2, u3⟩ := unb_all hP cP
    have sP : shp (unb P (bumpL (pairL v).1 a).2).1 = shp (pairL v).2 := by
      refine shp_eq u1.all (q_ne v) fun j => ?_
      have b := bump_shp (unb P (bumpL (pairL v).1 a).2).1 (unb P (bumpL (pairL v).1 a).2).2 j
      rw [u2] at b
      have c := addBox_shp (v := (v.length : Int) + 1) hv j
      have d := shp_at h j
      have e : (pairL (a :: v)).2 = addBox (pairL v).2 (bumpL (pairL v).1 a).2 ((v.length : Int) + 1) := rfl
      rw [e, c] at d
      simp only at b
      split at b <;> split at d <;> omega
    obtain ⟨w, w1, w2⟩ := pair_any v u1 sP
    refine ⟨(unb P (bumpL (pairL v).1 a).2).2 :: w, by simp [w1], ?_⟩
    rw [pairL, w2]
    simp only
    rw [u2, w1]
    rfl
end DL
namespace DL
/-! ### two descending words put into a tableau, and taken back -/
/-- n boxes taken from the row i -/
def tkN (i : Nat) : Nat → List (List Int) → List (List Int) × List Int
  | 0, T => (T, [])
  | n + 1, T => ((tkN i n (unb T i).1).1, (unb T i).2 :: (tkN i n (unb T i).1).2)
/-- each taking is from a corner -/
def Tks (i : Nat) : Nat → List (List Int) → Prop
  | 0, _ => True
  | n + 1, T => Tab T ∧ Cor T i ∧ Tks i n (unb T i).1
def Dsc (w : List Int) : Prop := w.Pairwise (· ≥ ·)
theorem ri_app_top {x : Int} {r : List Int} (h : ∀ b ∈ r, b ≤ x) (T : List (List Int)) : bumpL (r :: T) x = ((r ++ [x]) :: T, 0) := by
  rw [bump_no T (by rw [ri_top h]), ri_top h]
theorem ins_desc {r : List Int} (hr : r ≠ []) (hs : Srt r) : ∀ {xs : List Int}, Dsc xs → ∃ (s0 s1 : Nat) (r0 : List Int) (R1 T1 : List (List Int)), insW [r] xs = r0 :: R1 ∧ Tab (r0 :: R1) ∧ ((R1 = [] ∧ s1 = 0) ∨ ∃ r1, R1 = [r1] ∧ r1.length = s1 ∧ 0 < s1) ∧ r0.length = r.length + s0 ∧ s0 + s1 = xs.length ∧ s1 ≤ r.length ∧
    (∀ x, (∀ y ∈ xs, y ≤ x) → ∀ c ∈ r0, x < c → ∀ d ∈ R1.flatten, d ≤ c) ∧ (0 < s0 → ∀ x, (∀ y ∈ xs, y ≤ x) → ∀ c ∈ r0, c ≤ x) ∧ tkN 0 s0 (r0 :: R1) = (T1, xs.take s0) ∧ tkN 1 s1 T1 = ([r], xs.drop s0)
  | [], _ => ⟨0, 0, r, [], [r], rfl, .one hs hr, .inl ⟨rfl, rfl⟩, rfl, rfl, Nat.zero_le _, fun x _ c _ _ d hd => by simp at hd, fun h => by omega, rfl, rfl⟩
  | x :: xs, hx => by
    obtain ⟨h1, h2⟩ := List.pairwise_cons.mp hx
    obtain ⟨s0, s1, r0, R1, T1, e, tb, sh, l0, ls, lr, i1, i2, t0, t1⟩ := ins_desc hr hs h2
    have hup : ∀ y ∈ xs, y ≤ x := fun y hy => h1 y hy
    have ei : insW [r] (x :: xs) = (bumpL (r0 :: R1) x).1 := by
      show (bumpL (insW [r] xs) x).1 = _
      rw [e]
    have ub := unb_bump (x := x) tb
    have bt := bump_tab (x := x) tb
    by_cases top : ∀ c ∈ r0, c ≤ x
    · have b := ri_app_top top R1
      rw [b] at ei ub bt
      refine ⟨s0 + 1, s1, r0 ++ [x], R1, T1, ei, bt, sh, by simp; omega, by simp; omega, lr, fun y hy c hc q d hd => ?_, fun _ y hy c hc => ?_, ?_, ?_⟩
      · have xy := hy x List.mem_cons_self
        rcases List.mem_append.mp hc with hc | hc
        · have := top c hc; omega
        · have := List.mem_singleton.mp hc; omega
      · have xy := hy x List.mem_cons_self
        rcases List.mem_append.mp hc with hc | hc
        · have := top c hc; omega
        · have := List.mem_singleton.mp hc; omega
      · show ((tkN 0 s0 (unb ((r0 ++ [x]) :: R1) 0).1).1, (unb ((r0 ++ [x]) :: R1) 0).2 :: (tkN 0 s0 (unb ((r0 ++ [x]) :: R1) 0).1).2) = _
        rw [ub, t0]
        rfl
      · rw [t1]; rfl
    · obtain ⟨c, hc⟩ : ∃ c, (ri r0 x).2 = [c] := by
        have : ∃ c ∈ r0, x < c := by
          refine Classical.byContradiction fun n => top fun c hc => ?_
          by_cases q : c ≤ x
          · exact q
          · exact absurd ⟨c, hc, by omega⟩ n
        obtain ⟨c, h1, h2⟩ := this
        exact ri_some h1 h2
      have z : s0 = 0 := by
        refine Classical.byContradiction fun n => top fun c hc => i2 (by omega) x hup c hc
      subst z
      have ho : c ∈ r0 ∧ x < c := by
        rcases ri_out (r := r0) (x := x) with w | ⟨b, w, h1, h2⟩
        · rw [w] at hc; simp at hc
        · rw [w] at hc
          obtain rfl : b = c := (List.cons.inj hc).1
          exact ⟨h1, h2⟩
      have sr0 : Srt r0 := tb.hd
      have le : ∀ {b : Int}, b ∈ r0 → x < b → c ≤ b := fun hb hx => ri_least sr0 hc hb hx
      have hc1 := i1 x hup c ho.1 ho.2
      have b : bumpL (r0 :: R1) x = ((ri r0 x).1 :: (bumpL R1 c).1, (bumpL R1 c).2 + 1) := bump_on R1 hc
      have b1 : ∃ r1, (bumpL R1 c) = ([r1], 0) ∧ r1.length = s1 + 1 ∧ ∀ d ∈ r1, d = c ∨ d ∈ R1.flatten := by
        rcases sh with ⟨e1, e2⟩ | ⟨r1, e1, e2, -⟩
        · rw [e1, e2]
          exact ⟨[c], rfl, rfl, fun d hd => .inl (List.mem_singleton.mp hd)⟩
        · rw [e1] at hc1 ⊢
          rw [ri_app_top (fun b hb => hc1 b (by simpa using hb)) []]
          refine ⟨r1 ++ [c], rfl, by simp [e2], fun d hd => ?_⟩
          rcases List.mem_append.mp hd with hd | hd
          · exact .inr (by simpa using hd)
          · exact .inl (List.mem_singleton.mp hd)
      obtain ⟨r1, e1, e2, e3⟩ := b1
      rw [e1] at b
      rw [b] at ei ub bt
      have T0 : T1 = r0 :: R1 := (Prod.mk.inj t0).1.symm
      have rl := ri_len (r := r0) (x := x)
      rw [hc] at rl
      simp at rl
      refine ⟨0, s1 + 1, (ri r0 x).1, [r1], (ri r0 x).1 :: [r1], ei, bt, .inr ⟨r1, rfl, e2, by omega⟩, by omega, by simp; omega, by have := (tab_bl0 bt).len; omega, fun y hy a ha q d hd => ?_, fun h => by omega, rfl, ?_⟩
      · have xy := hy x List.mem_cons_self
        have a0 : a ∈ r0 := by
          rcases ri_mem ha with w | w
          · omega
          · exact w
        have ca := le a0 (by omega)
        have hd : d ∈ r1 := by simpa using hd
        rcases e3 d hd with w | w
        · omega
        · have := hc1 d w; omega
      · show ((tkN 1 s1 (unb ((ri r0 x).1 :: [r1]) 1).1).1, (unb ((ri r0 x).1 :: [r1]) 1).2 :: (tkN 1 s1 (unb ((ri r0 x).1 :: [r1]) 1).1).2) = _
        have ub : unb ((ri r0 x).1 :: [r1]) 1 = (r0 :: R1, x) := ub
        rw [ub]
        rw [T0] at t1
        rw [t1]
        rfl
/-! back -/
theorem back0 {b : Nat} (hb : 1 ≤ b) : ∀ (s : Nat) {p : List Int} {R : List (List Int)}, Tab (p :: R) → p.length = b + s → (∀ r T, R = r :: T → r.length ≤ b) → ∃ p' e, tkN 0 s (p :: R) = (p' :: R, e) ∧ Tab (p' :: R) ∧ p'.length = b ∧ insW (p' :: R) e = p :: R ∧ Dsc e ∧ (∀ c ∈ p', ∀ x ∈ e, c ≤ x) ∧ (∀ M, (∀ c ∈ p, c ≤ M) → ∀ x ∈ e, x ≤ M) ∧ e.length = s ∧ (∀ c ∈ p', c ∈ p) ∧ Tks 0 s (p :: R)
  | 0, p, R, T, l, _ => ⟨p, [], rfl, T, by omega, rfl, List.Pairwise.nil, fun c _ x hx => (by exact absurd hx List.not_mem_nil), fun M _ x hx => (by exact absurd hx List.not_mem_nil), rfl, fun c hc => hc, trivial⟩
  | s + 1, p, R, T, l, hR => by
    obtain ⟨q, x, rfl⟩ : ∃ q x, p = q ++ [x] := by
      rcases List.eq_nil_or_concat p with h | ⟨q, x, h⟩
      · rw [h] at l; simp at l
      · exact ⟨q, x, by rw [h, List.concat_eq_append]⟩
    have lq : q.length = b + s := by simp at l; omega
    have cr : Cor ((q ++ [x]) :: R) 0 := by
      refine ⟨by simp, ?_⟩
      show (rowAt ((q ++ [x]) :: R) 1).length < (rowAt ((q ++ [x]) :: R) 0).length
      cases R with
      | nil => simp [rowAt]
      | cons r T' => have := hR r T' rfl; simp [rowAt]; omega
    obtain ⟨u1, u2, -⟩ := unb_all T cr
    have u : unb ((q ++ [x]) :: R) 0 = (q :: R, x) := by
      show (dropB (q ++ [x]) R, (q ++ [x]).getLastD 0) = _
      unfold dropB
      rw [if_neg (by simp; intro h; rw [h] at lq; simp at lq; omega), List.dropLast_concat]
      simp
    rw [u] at u1 u2
    obtain ⟨p', e, t, tb, lp, ins, d, g, g2, le, mm, tk⟩ := back0 hb s u1 lq hR
    have qx : ∀ c ∈ q, c ≤ x := fun c hc => (srt_app.mp T.hd).2.2 c hc x (by simp)
    refine ⟨p', x :: e, ?_, tb, lp, ?_, List.pairwise_cons.mpr ⟨fun y hy => g2 x qx y hy, d⟩, fun c hc y hy => ?_, fun M hM y hy => ?_, by simp [le], fun c hc => List.mem_append_left _ (mm c hc), T, cr, by rw [u]; exact tk⟩
    · show ((tkN 0 s (unb ((q ++ [x]) :: R) 0).1).1, (unb ((q ++ [x]) :: R) 0).2 :: (tkN 0 s (unb ((q ++ [x]) :: R) 0).1).2) = _
      rw [u, t]
    · show (bumpL (insW (p' :: R) e) x).1 = _
      rw [ins, u2]
    · rcases List.mem_cons.mp hy with rfl | hy
      · exact qx c (mm c hc)
      · exact g c hc y hy
    · rcases List.mem_cons.mp hy with rfl | hy
      · exact hM y (by simp)
      · exact g2 M (fun c hc => hM c (List.mem_append_left _ hc)) y hy
theorem back1 : ∀ (s : Nat) {p : List Int} {R : List (List Int)}, Tab (p :: R) → ((R = [] ∧ s = 0) ∨ ∃ r, R = [r] ∧ r.length = s ∧ 0 < s) → ∃ q e, tkN 1 s (p :: R) = ([q], e) ∧ Srt q ∧ q.length = p.length ∧ insW [q] e = p :: R ∧ Dsc e ∧ e.length = s ∧ (∀ M, (∀ d ∈ p, ∀ c ∈ R.flatten, d < c → d ≤ M) → ∀ x ∈ e, x ≤ M) ∧ Tks 1 s (p :: R)
  | 0, p, R, T, h => by
    rcases h with ⟨rfl, -⟩ | ⟨r, -, -, h⟩
    · exact ⟨p, [], rfl, T.hd, rfl, rfl, List.Pairwise.nil, rfl, fun M _ x hx => (by exact absurd hx List.not_mem_nil), trivial⟩
    · omega
  | s + 1, p, R, T, h => by
    obtain ⟨r, rfl, lr, -⟩ : ∃ r, R = [r] ∧ r.length = s + 1 ∧ 0 < s + 1 := by
      rcases h with ⟨-, h⟩ | h
      · omega
      · exact h
    obtain ⟨A, c, rfl⟩ : ∃ q x, r = q ++ [x] := by
      rcases List.eq_nil_or_concat r with h | ⟨q, x, h⟩
      · rw [h] at lr; simp at lr
      · exact ⟨q, x, by rw [h, List.concat_eq_append]⟩
    have lA : A.length = s := by simpa using lr
    have sp := T.hd
    have pn := T.ne
    have bl := tab_bl0 T
    have hd := bl_head sp bl (c := c) (by simp)
    obtain ⟨B, C, f1, f2, f3, f4⟩ := ur_split sp pn hd
    have cr : Cor (p :: [A ++ [c]]) 1 := by
      refine ⟨by simp, ?_⟩
      show (rowAt (p :: [A ++ [c]]) 2).length < (rowAt (p :: [A ++ [c]]) 1).length
      simp [rowAt]
    obtain ⟨u1, u2, -⟩ := unb_all T cr
    have u : unb (p :: [A ++ [c]]) 1 = ((ur p c).1 :: (if A = [] then [] else [A]), (ur p c).2) := by
      have g : unb [A ++ [c]] 0 = ((if A = [] then [] else [A]), c) := by
        have gl : (A ++ [c]).getLastD 0 = c := by simp
        show (dropB (A ++ [c]) [], (A ++ [c]).getLastD 0) = _
        rw [gl]
        unfold dropB
        cases A with
        | nil => simp
        | cons a A =>
          rw [if_neg (by simp), if_neg (by simp), List.dropLast_concat]
      show ((ur p (unb [A ++ [c]] 0).2).1 :: (unb [A ++ [c]] 0).1, (ur p (unb [A ++ [c]] 0).2).2) = _
      rw [g]
    rw [u] at u1 u2
    have lp := ur_len sp pn hd
    have Ac : ∀ a ∈ A, a ≤ c := fun a ha => (srt_app.mp T.tl.hd).2.2 a ha c (by simp)
    have sh : ((if A = [] then ([] : List (List Int)) else [A]) = [] ∧ s = 0) ∨ ∃ r, (if A = [] then ([] : List (List Int)) else [A]) = [r] ∧ r.length = s ∧ 0 < s := by
      cases A with
      | nil => exact .inl ⟨rfl, by simpa using lA.symm⟩
      | cons a A => exact .inr ⟨a :: A, rfl, lA, by simp at lA; omega⟩
    have fl : ∀ a ∈ (if A = [] then ([] : List (List Int)) else [A]).flatten, a ∈ A := fun a ha => by
      cases A with
      | nil => simp at ha
      | cons b A => simpa using ha
    obtain ⟨q, e, t, sq, lq, ins, d, le, g, tk⟩ := back1 s u1 sh
    generalize hx : (ur p c).2 = x at *
    have mem' : ∀ a ∈ (ur p c).1, a = c ∨ a ∈ p := fun a ha => by
      rw [f2] at ha
      rw [f1]
      simp only [List.mem_append, List.mem_cons] at ha ⊢
      rcases ha with h | h | h
      · exact .inr (.inl h)
      · exact .inl h
      · exact .inr (.inr (.inr h))
    have best : ∀ a ∈ p, a < c → a ≤ x := fun a ha h => by
      rw [f1] at ha sp
      have sp2 := srt_app.mp sp
      rcases List.mem_append.mp ha with ha | ha
      · exact sp2.2.2 a ha x List.mem_cons_self
      · rcases List.mem_cons.mp ha with rfl | ha
        · exact Int.le_refl _
        · have := f4 a ha; omega
    have xp : x ∈ p := by rw [f1]; simp
    refine ⟨q, x :: e, ?_, sq, by omega, ?_, List.pairwise_cons.mpr ⟨fun y hy => g x (fun a ha b hb h => ?_) y hy, d⟩, by simp [le], fun M hM y hy => ?_, T, cr, by rw [u]; exact tk⟩
    · show ((tkN 1 s (unb (p :: [A ++ [c]]) 1).1).1, (unb (p :: [A ++ [c]]) 1).2 :: (tkN 1 s (unb (p :: [A ++ [c]]) 1).1).2) = _
      rw [u, t]
    · show (bumpL (insW [q] e) x).1 = _
      rw [ins, u2]
    · have bA := Ac b (fl b hb)
      rcases mem' a ha with rfl | ha
      · omega
      · exact best a ha (by omega)
    · rcases List.mem_cons.mp hy with rfl | hy
      · exact hM y xp c (by simp) f3
      · refine g M (fun a ha b hb h => ?_) y hy
        have bA := Ac b (fl b hb)
        rcases mem' a ha with rfl | ha
        · omega
        · exact hM a ha b (by simp [fl b hb]) h
/-! the two ways together -/
theorem dsc_rev {Y : List Int} (h : Dsc Y) : Srt Y.reverse := List.pairwise_reverse.mpr h
theorem srt_rev {r : List Int} (h : Srt r) : Dsc r.reverse := List.pairwise_reverse.mpr h
theorem pL_desc {Y : List Int} (hY : Dsc Y) (hn : Y ≠ []) : pL Y = [Y.reverse] := by
  have := pL_row (dsc_rev hY) (by simpa using hn)
  rwa [List.reverse_reverse] at this
theorem two_in {X Y : List Int} (hX : Dsc X) (hY : Dsc Y) (hn : Y ≠ []) : (pL (X ++ Y)).length ≤ 2 ∧ pL (X ++ Y) ≠ [] ∧ (rowAt (pL (X ++ Y)) 0).length + (rowAt (pL (X ++ Y)) 1).length = X.length + Y.length ∧ (rowAt (pL (X ++ Y)) 1).length ≤ X.length ∧ (rowAt (pL (X ++ Y)) 1).length ≤ Y.length ∧
    ∃ T1, tkN 0 ((rowAt (pL (X ++ Y)) 0).length - Y.length) (pL (X ++ Y)) = (T1, X.take ((rowAt (pL (X ++ Y)) 0).length - Y.length)) ∧ tkN 1 (rowAt (pL (X ++ Y)) 1).length T1 = ([Y.reverse], X.drop ((rowAt (pL (X ++ Y)) 0).length - Y.length)) := by
  have e : pL (X ++ Y) = insW [Y.reverse] X := by
    show insW [] (X ++ Y) = _
    rw [insW_app]
    show insW (pL Y) X = _
    rw [pL_desc hY hn]
  obtain ⟨s0, s1, r0, R1, T1, a1, a2, a3, a4, a5, ly, -, -, a6, a7⟩ := ins_desc (r := Y.reverse) (by simpa using hn) (dsc_rev hY) hX
  rw [e, a1]
  rw [List.length_reverse] at a4
  have r0e : (rowAt (r0 :: R1) 0).length = Y.length + s0 := a4
  have e0 : (rowAt (r0 :: R1) 0).length - Y.length = s0 := by omega
  rcases a3 with ⟨rfl, z⟩ | ⟨r1, rfl, z, zp⟩
  · have r1e : (rowAt [r0] 1).length = 0 := rfl
    rw [e0, r1e]
    rw [z] at a7
    exact ⟨by simp, by simp, by omega, by omega, by omega, T1, a6, a7⟩
  · have r1e : (rowAt [r0, r1] 1).length = s1 := z
    rw [e0, r1e]
    rw [List.length_reverse] at ly
    exact ⟨by simp, by simp, by omega, by omega, ly, T1, a6, a7⟩
theorem two_back {P : List (List Int)} (hP : Tab P) (h2 : P.length ≤ 2) {a b : Nat} (hb : 1 ≤ b) (hs : (rowAt P 0).length + (rowAt P 1).length = a + b) (ha : (rowAt P 1).length ≤ a) (h1 : (rowAt P 1).length ≤ b) :
    ∃ T1 e0 e1 q, tkN 0 ((rowAt P 0).length - b) P = (T1, e0) ∧ tkN 1 (rowAt P 1).length T1 = ([q], e1) ∧ Dsc (e0 ++ e1) ∧ (e0 ++ e1).length = a ∧ Srt q ∧ q.length = b ∧ pL ((e0 ++ e1) ++ q.reverse) = P ∧ Tks 0 ((rowAt P 0).length - b) P ∧ Tks 1 (rowAt P 1).length T1 := by
  cases P with
  | nil => simp [rowAt] at hs; omega
  | cons p R =>
    have e0 : rowAt (p :: R) 0 = p := rfl
    rw [e0] at hs ⊢
    have hR : ∀ r T, R = r :: T → r.length ≤ b := fun r T e => by
      subst e
      exact h1
    obtain ⟨p', e, t, tb, lp, ins, d, g, g2, le, mm, tk0⟩ := back0 hb (p.length - b) hP (by omega) hR
    have sh : (R = [] ∧ (rowAt (p :: R) 1).length = 0) ∨ ∃ r, R = [r] ∧ r.length = (rowAt (p :: R) 1).length ∧ 0 < (rowAt (p :: R) 1).length := by
      cases R with
      | nil => exact .inl ⟨rfl, rfl⟩
      | cons r R =>
        cases R with
        | nil =>
          have : r ≠ [] := hP.tl.ne
          have : r.length ≠ 0 := fun h => this (List.length_eq_zero_iff.mp h)
          exact .inr ⟨r, rfl, rfl, by show 0 < r.length; omega⟩
        | cons _ _ => simp at h2
    obtain ⟨q, e1, t1, sq, lq, ins1, d1, le1, g1, tk1⟩ := back1 (rowAt (p :: R) 1).length tb sh
    refine ⟨p' :: R, e, e1, q, t, t1, ?_, ?_, sq, lq.trans lp, ?_, tk0, tk1⟩
    · refine List.pairwise_append.mpr ⟨d, d1, fun x hx y hy => ?_⟩
      exact g1 x (fun c hc _ _ _ => g c hc x hx) y hy
    · clear sh
      rw [List.length_append, le, le1]
      omega
    · have qn : q ≠ [] := fun h => by rw [h] at lq; simp at lq; omega
      show insW [] ((e ++ e1) ++ q.reverse) = _
      rw [insW_app, insW_app]
      have : insW [] q.reverse = [q] := pL_row sq qn
      rw [this, ins1, ins]
theorem unb_bd {T : List (List Int)} {i m : Nat} (hT : Tab T) (hc : Cor T i) (hl : T.length ≤ m) (hz : ∀ r ∈ T, r.length ≤ m) : (unb T i).1.length ≤ m ∧ ∀ r ∈ (unb T i).1, r.length ≤ m := by
  obtain ⟨-, u, -⟩ := unb_all hT hc
  have bl := bumpL_len (rs := (unb T i).1) (x := (unb T i).2)
  have bs := bump_shp (unb T i).1 (unb T i).2
  rw [u] at bl bs
  dsimp only at bl bs
  refine ⟨by omega, fun r hr => ?_⟩
  obtain ⟨j, hj⟩ := List.mem_iff_getElem?.mp hr
  have b := bs j
  rw [List.getD_eq_getElem?_getD, List.getD_eq_getElem?_getD, hj] at b
  have : (T[j]?.getD []).length ≤ m := by
    cases e : T[j]? with
    | none => simp
    | some q => exact hz q (List.mem_of_getElem? e)
  simp only [Option.getD_some] at b
  omega
end DL
namespace DL
/-! ### letters of a heap -/
def lettersFrom : Nat → List Int → List Int
  | _, [] => []
  | a, m :: r => List.replicate m.toNat (a : Int) ++ lettersFrom (a + 1) r
theorem lf_mem : ∀ {x : List Int} {a : Nat} {i : Int}, i ∈ lettersFrom a x → (a : Int) ≤ i ∧ i < a + x.length
  | [], _, _, h => by cases h
  | m :: r, a, i, h => by
    rw [List.length_cons]
    rcases List.mem_append.mp h with q | q
    · have := List.eq_of_mem_replicate q
      omega
    · have := lf_mem q
      omega
theorem lf_sorted : ∀ (x : List Int) (a : Nat), (lettersFrom a x).Pairwise (· ≤ ·)
  | [], _ => .nil
  | m :: r, a => by
    rw [lettersFrom, List.pairwise_append]
    refine ⟨?_, lf_sorted r (a + 1), fun i hi j hj => ?_⟩
    · rw [List.pairwise_replicate]
      exact .inr (Int.le_refl _)
    · have h1 := List.eq_of_mem_replicate hi
      have := lf_mem hj
      omega
theorem lf_count : ∀ (x : List Int) (a k : Nat) (m : Int), x[k]? = some m → (lettersFrom a x).count ((a + k : Nat) : Int) = m.toNat
  | [], _, _, _, h => by simp at h
  | m :: r, a, 0, _, h => by
    simp only [List.getElem?_cons_zero, Option.some.injEq] at h
    subst h
    rw [lettersFrom, List.count_append, Nat.add_zero, List.count_replicate_self, List.count_eq_zero.mpr (fun q => by have := lf_mem q; omega)]
    rfl
  | m :: r, a, k + 1, m', h => by
    have ih := lf_count r (a + 1) k m' (by simpa using h)
    rw [lettersFrom, List.count_append, show a + (k + 1) = a + 1 + k by omega, ih, List.count_eq_zero.mpr (fun q => by have := List.eq_of_mem_replicate q; omega)]
    omega
theorem lf_len : ∀ {x : List Int} {a : Nat}, (∀ i ∈ x, 0 ≤ i) → ((lettersFrom a x).length : Int) = x.sum
  | [], _, _ => rfl
  | m :: r, a, h => by
    have := lf_len (x := r) (a := a + 1) fun i hi => h i (List.mem_cons_of_mem _ hi)
    have h0 := h m List.mem_cons_self
    rw [lettersFrom, List.length_append, List.length_replicate, List.sum_cons]
    omega
/-- counting the letters of a heap -/
theorem lf_counts {x l : List Int} (hx : ∀ i ∈ x, 0 ≤ i) (hl : l.Perm (lettersFrom 0 x)) : (List.range x.length).map (fun (k : Nat) => ((l.count (k : Int) : Nat) : Int)) = x := by
  refine List.ext_getElem (by simp) fun k h1 h2 => ?_
  simp only [List.length_map, List.length_range] at h1
  have e := lf_count x 0 k x[k] (List.getElem?_eq_getElem h1)
  rw [Nat.zero_add] at e
  have h0 := hx x[k] (List.getElem_mem h1)
  simp only [List.getElem_map, List.getElem_range]
  rw [hl.count_eq, e]
  omega
end DL
namespace DL
open PySem L2
/-- places -/
def nt (ks : List Nat) : List PV := ks.map fun (k : Nat) => PV.int (k : Int)
theorem nt_len (ks : List Nat) : (nt ks).length = ks.length := List.length_map _
theorem nt_app (ks ls : List Nat) : nt (ks ++ ls) = nt ks ++ nt ls := List.map_append
theorem nt_one (k : Nat) : nt [k] = [.int (k : Int)] := rfl
structure Word (w : List Int) : Prop where
  b : ∀ x ∈ w, 1 ≤ x ∧ x ≤ 6
  m : w.length ≤ 12
theorem isint_ok (i : Int) (S : AH) : d_is_integer [.p (.int i)] S = .ok (.p (.bl true)) S := by
  simp [d_is_integer, b_is_integer_]
/-- a letter -/
theorem ix_word {w : List Int} {k : Nat} {x : Int} {v : List Int} (e : w.drop k = x :: v) (S : AH) : ixO (.p (.tup (w.map PV.int))) (.p (.int (k : Int))) S = some (.p (.int x), S) := by
  refine ixO_tup (atI_map _ (atI_nat ?_))
  have : (w.drop k)[0]? = some x := by rw [e]; rfl
  rwa [List.getElem?_drop] at this
theorem drop_next {w : List Int} {k : Nat} {x : Int} {v : List Int} (e : w.drop k = x :: v) : w.drop (k + 1) = v := by
  rw [← List.drop_drop, e]; rfl
/-- an answer -/
def opv : Option (List Int) → PV
  | none => .non
  | some u => tupI u
theorem nt_last {u : List Nat} {p : Nat} (S : AH) : ixO (.p (.tup (nt (u ++ [p])))) (.p (.int (-1))) S = some (.p (.int p), S) := by
  refine ixO_tup ?_
  unfold atI
  have e : ixN (nt (u ++ [p])).length (-1) = some u.length := by
    rw [nt_len, List.length_append, List.length_singleton]
    unfold ixN
    rw [if_neg (by omega), if_pos (by omega)]
    congr 1
    omega
  rw [e]
  simp [nt]
end DL
namespace DL
open PySem L2
/-- a comprehension of takes -/
theorem lc_draw {i : Nat} {δ : Sig} {fe : Sig → AH → Res DV} {P : Int → Prop} {J : AH} (hd : ∀ (x : Option DV) (c : Cell), St2 c → ∃ v c', St2 c' ∧ P v ∧ fe (δ.set i x) (c :: J) = .ok (.p (.int v)) (c' :: J)) : ∀ (n : Nat) (lo : Int) (c : Cell), St2 c → ∃ (vs : List Int) (c' : Cell), St2 c' ∧ vs.length = n ∧ (∀ v ∈ vs, P v) ∧ lcGo ckT (.nm i) dYes fe δ (rangeI lo n) (c :: J) = .ok (vs.map PV.int) (c' :: J)
  | 0, lo, c, hc => ⟨[], c, hc, rfl, by simp, lc_nil trivial⟩
  | n + 1, lo, c, hc => by
    obtain ⟨v, c1, hc1, hv, e⟩ := hd (some (.p (.int lo))) c hc
    obtain ⟨vs, c2, hc2, hl, hvs, e2⟩ := lc_draw hd n (lo + 1) c1 hc1
    refine ⟨v :: vs, c2, hc2, by rw [List.length_cons, hl], fun x hx => ?_, ?_⟩
    · rcases List.mem_cons.mp hx with rfl | hx
      · exact hv
      · exact hvs x hx
    · rw [range_succ, lc_take trivial rfl rfl e, e2]
      rfl
theorem lword_ok {c : Cell} (hc : St2 c) {most letters : Int} (h0 : 0 ≤ most) (h1 : most ≤ 12) (k0 : 1 ≤ letters) (k1 : letters ≤ 6) : ∃ w c', St2 c' ∧ Word w ∧ d_law_word [.c 0, .p (.int most), .p (.int letters)] [c] = .ok (.p (tupI w)) [c'] := by
  obtain ⟨n, c1, hc1, hn, t1⟩ := take_ok hc (m := most + 1) [] (by omega) (by omega)
  obtain ⟨m, hm⟩ : ∃ m : Nat, n = (m : Int) := ⟨n.toNat, by omega⟩
  subst hm
  have hz : (rangeI 0 m).length ≤ 16777216 := by rw [rangeI_len]; omega
  obtain ⟨vs, c2, hc2, hl, hvs, e⟩ := lc_draw (J := []) (i := 3) (δ := [some (.c 0), some (.p (.int most)), some (.p (.int letters)), none]) (fe := dBin addO (dC (.int 1)) (dCall d_law_take (dCons (dVar 0) (dCons (dVar 2) dNil)))) (P := fun v => 1 ≤ v ∧ v ≤ 6) (fun x c hc => by
    obtain ⟨v, c', hc', hv, t⟩ := take_ok hc (m := letters) [] (by omega) (by omega)
    exact ⟨1 + v, c', hc', ⟨by omega, by omega⟩, by simp [t]⟩) m 0 c1 hc1
  obtain ⟨a2, b2, rfl⟩ := hc2
  refine ⟨vs, _, ⟨a2, b2, rfl⟩, ⟨hvs, by omega⟩, ?_⟩
  obtain ⟨a0, b0, rfl⟩ := hc
  simp [d_law_word, b_law_word_, t1, rg_len m (by omega), ev_kLc hz, wipeD]
  rw [e]
  simp
end DL
namespace DL
open PySem L2
/-! ### the law's own bumping is bumpL, its pair is pairL -/
theorem bump_turn {R S : AH} {n i : Nat} {rs : List (List Int)} (N : Nest R S n (pr rs)) (hi : i < rs.length) (hz : ∀ r ∈ rs, r.length ≤ 1000) (x : Int) (d2 d4 d5 d6 : Option DV) :
    (gts x (rowAt rs i) = [] → ∃ S', Nest R S' n (pr (rs.set i (rowAt rs i ++ [x]))) ∧ L0_law_bump [some (.c n), some (.p (.int x)), d2, some (.p (.int (i : Int))), d4, d5, d6] S = .rtT [.c n, .p (.int (i : Int))] S') ∧
    (∀ k t, gts x (rowAt rs i) = k :: t → ∃ S' e4 e5 e6, Nest R S' n (pr (rs.set i ((rowAt rs i).set k x))) ∧ L0_law_bump [some (.c n), some (.p (.int x)), d2, some (.p (.int (i : Int))), d4, d5, d6] S = .nx [some (.c n), some (.p (.int (itAt (rowAt rs i) k))), d2, some (.p (.int (i : Int))), e4, e5, e6] S') := by
  obtain ⟨c, e1, e2, e3, e4, e5⟩ := N.ix (i := i) (by simpa using hi)
  rw [pr_at hi] at e2
  have rz : (rowAt rs i).length ≤ 1000 := hz _ (rowAt_mem hi)
  have le := lenO_c e2
  rw [List.length_map] at le
  have rg := rg_len (rowAt rs i).length (by omega)
  have hz' : (rangeI 0 (rowAt rs i).length).length ≤ 16777216 := by rw [rangeI_len]; omega
  have it : ∀ j < (rowAt rs i).length, ixO (.c c) (.p (.int (j : Int))) S = some (.p (.int (itAt (rowAt rs i) j)), S) := fun j hj => ixO_c e2 (atI_map PV.int (atI_nat (by rw [it_get hj]; exact List.getElem?_eq_getElem hj)))
  have hset : ∀ r : List Int, Nest R (S.set c (.lst (r.map PV.int))) n (pr (rs.set i r)) := fun r => by
    have := e5 (r.map PV.int)
    rwa [pr_set] at this
  constructor
  · intro c0
    refine ⟨_, hset (rowAt rs i ++ [x]), ?_⟩
    have ap : ∀ y : PV, appendM (.c c) [.p y] S = some (.p .non, S.set c (.lst ((rowAt rs i).map PV.int ++ [y]))) := fun y => append_c e2 (by rw [List.length_map]; omega)
    have km : ∀ (fs : Sig → AH → Res (List DV)) (δ : Sig), kMeth appendM fs δ (.c c) S = (fs δ S).bind (kMeth2 appendM (.c c)) := fun fs δ => kMeth_c e2
    simp [L0_law_bump, e1, le, rg, ev_kLc hz']
    rw [lc_rfilter (fun j => decide (x < itAt (rowAt rs i) j)) (fun j => .int (j : Int)) (fun j hj => by simp [wipeD, e1, it j hj]) (fun j hj _ => by simp [wipeD])]
    unfold gts at c0
    rw [c0]
    simp [e1, km, ap]
  · intro k G' hG
    have hk : k < (rowAt rs i).length := (gts_mem.mp (by rw [hG]; exact List.mem_cons_self)).1
    have ik := it k hk
    have i0 : ∀ S : AH, ixO (.p (.lst (.int (k : Int) :: G'.map fun (j : Nat) => PV.int (j : Int)))) (.p (.int 0)) S = some (.p (.int (k : Int)), S) := fun S => ixO_lst (atI_at (by decide) rfl)
    have js : ∀ δ : Sig, jSub3 (.c c) (.p (.int x)) (.p (.int (k : Int))) δ S = .nx δ (S.set c (.lst (((rowAt rs i).set k x).map PV.int))) := fun δ => by
      refine ev_jSub3 ?_
      rw [setIx_c e2 (by rw [List.length_map]; exact hk), List.map_set]
    refine ⟨_, some (.p (.lst (.int (k : Int) :: G'.map fun (j : Nat) => PV.int (j : Int)))), some (.p (.int (k : Int))), some (.p (.int (itAt (rowAt rs i) k))), hset ((rowAt rs i).set k x), ?_⟩
    simp [L0_law_bump, e1, le, rg, ev_kLc hz']
    rw [lc_rfilter (fun j => decide (x < itAt (rowAt rs i) j)) (fun j => .int (j : Int)) (fun j hj => by simp [wipeD, e1, it j hj]) (fun j hj _ => by simp [wipeD])]
    unfold gts at hG
    rw [hG]
    have ln : ¬ ((G'.length : Int) + 1 = 0) := by omega
    simp [e1, i0, ik, js, ln]
theorem rowAt_mid (dn : List (List Int)) (r : List Int) (rs : List (List Int)) : rowAt (dn ++ r :: rs) dn.length = r := by unfold rowAt; simp
theorem set_mid (dn : List (List Int)) (r q : List Int) (rs : List (List Int)) : (dn ++ r :: rs).set dn.length q = dn ++ q :: rs := by simp
theorem bump_loop {R : AH} {n : Nat} : ∀ (rest dn : List (List Int)) (S : AH) (x : Int) (d2 d3 d4 d5 d6 : Option DV), Nest R S n (pr (dn ++ rest)) → (∀ r ∈ dn ++ rest, r.length ≤ 1000) →
    (∃ S', Nest R S' n (pr (dn ++ (bumpL rest x).1)) ∧ (bumpL rest x).2 < rest.length ∧ forGo ckT (.nm 3) L0_law_bump (rangeI (dn.length : Int) rest.length) [some (.c n), some (.p (.int x)), d2, d3, d4, d5, d6] S = .rtT [.c n, .p (.int ((dn.length + (bumpL rest x).2 : Nat) : Int))] S') ∨
    (∃ S' rs' x' e3 e4 e5 e6, Nest R S' n (pr (dn ++ rs')) ∧ bumpL rest x = (rs' ++ [[x']], rest.length) ∧ rs'.length = rest.length ∧ forGo ckT (.nm 3) L0_law_bump (rangeI (dn.length : Int) rest.length) [some (.c n), some (.p (.int x)), d2, d3, d4, d5, d6] S = .nx [some (.c n), some (.p (.int x')), d2, e3, e4, e5, e6] S')
  | [], dn, S, x, d2, d3, d4, d5, d6, Ne, _ => .inr ⟨S, [], x, d3, d4, d5, d6, Ne, rfl, rfl, for_nil⟩
  | r :: rs, dn, S, x, d2, d3, d4, d5, d6, Ne, g => by
    have hi : dn.length < (dn ++ r :: rs).length := by simp
    obtain ⟨t1, t2⟩ := bump_turn Ne hi g x d2 d4 d5 d6
    rw [rowAt_mid] at t1 t2
    rw [List.length_cons, range_succ, for_nm]
    show (∃ S', _ ∧ _ ∧ afterTurn (L0_law_bump [some (.c n), some (.p (.int x)), d2, some (.p (.int (dn.length : Int))), d4, d5, d6] S) _ = _) ∨ (∃ S' rs' x' e3 e4 e5 e6, _ ∧ _ ∧ _ ∧ afterTurn (L0_law_bump [some (.c n), some (.p (.int x)), d2, some (.p (.int (dn.length : Int))), d4, d5, d6] S) _ = _)
    cases e : gts x r with
    | nil =>
      obtain ⟨S', N', e'⟩ := t1 e
      rw [set_mid] at N'
      refine .inl ⟨S', by rw [bumpL_stop e]; exact N', by rw [bumpL_stop e]; simp, ?_⟩
      rw [e', after_rtT, bumpL_stop e]
      rfl
    | cons k t =>
      obtain ⟨S', e4, e5, e6, N', e'⟩ := t2 k t e
      rw [set_mid] at N'
      have hk : k < r.length := (gts_mem.mp (by rw [e]; exact List.mem_cons_self)).1
      have ed : dn ++ r.set k x :: rs = (dn ++ [r.set k x]) ++ rs := by simp
      have g' : ∀ q ∈ (dn ++ [r.set k x]) ++ rs, q.length ≤ 1000 := fun q hq => by
        rw [← ed] at hq
        rcases List.mem_append.mp hq with w | w
        · exact g q (List.mem_append_left _ w)
        · rcases List.mem_cons.mp w with rfl | w
          · rw [List.length_set]; exact g r (by simp)
          · exact g q (by simp [w])
      rw [ed] at N'
      rw [e', after_nx]
      have ih := bump_loop rs (dn ++ [r.set k x]) S' (itAt r k) d2 (some (.p (.int (dn.length : Int)))) e4 e5 e6 N' g'
      have el : ((dn ++ [r.set k x]).length : Int) = (dn.length : Int) + 1 := by simp
      rw [el] at ih
      rw [bumpL_on e]
      rcases ih with ⟨S2, a1, a2, a3⟩ | ⟨S2, rs2, x2, f3, f4, f5, f6, a1, a2, a3, a4⟩
      · refine .inl ⟨S2, by simpa using a1, by simp; omega, ?_⟩
        have en : (dn ++ [r.set k x]).length + (bumpL rs (itAt r k)).2 = dn.length + ((bumpL rs (itAt r k)).2 + 1) := by simp; omega
        rw [a3, en]
      · refine .inr ⟨S2, r.set k x :: rs2, x2, f3, f4, f5, f6, by simpa using a1, by rw [a2]; simp, by simp [a3], a4⟩
theorem bump_fin {R S : AH} {n N : Nat} {rs : List (List Int)} (Ne : Nest R S n (pr rs)) (g : Good N rs) (hN : N < 1000) (hl : rs.length ≤ 1000) (x : Int) :
    gcK R false ((dSeq (dFor (dRng1 (dCons (dApp lenO (dCons (dVar 0) dNil)) dNil)) (.nm 3) L0_law_bump)
    (dSeq (dDrop (dMeth appendM (dVar 0) (dCons (dCell (dLst (dCons (dVar 1) dNil))) dNil)))
    (dRetT (dCons (dVar 0) (dCons (dBin subO (dApp lenO (dCons (dVar 0) dNil)) (dC (.int 1))) dNil))))) [some (.c n), some (.p (.int x)), none, none, none, none, none] S) = .ok (.p (.tup [.lst ((pr (bumpL rs x).1).map PV.lst), .int (((bumpL rs x).2 : Nat) : Int)])) R := by
  have le := Ne.lenO
  rw [pr_len] at le
  have rg := rg_len rs.length (by omega)
  have fin : ∀ (S' : AH) (rs' : List (List Int)) (i' : Nat), Nest R S' n (pr rs') → gcK R false (.rtT [.c n, .p (.int (i' : Int))] S') = .ok (.p (.tup [.lst ((pr rs').map PV.lst), .int ((i' : Nat) : Int)])) R := fun S' rs' i' N' => by
    have f : frzDs R.length S' [.c n, .p (.int (i' : Int))] = some [.lst ((pr rs').map PV.lst), .int (i' : Int)] := by
      have fz := N'.frz
      show (frzD R.length S' (.c n)).bind _ = _
      rw [fz]
      rfl
    rw [gc_tup (okC_take N'.pre) f, N'.pre]
  rcases bump_loop rs [] S x none none none none none Ne (fun r hr => by have := (g r hr).2; omega) with ⟨S', a1, a4, a5⟩ | ⟨S', rs', x', e3, e4, e5, e6, a1, a2, a3, a4⟩
  · have a5 : forGo _ _ _ (rangeI 0 _) _ _ = _ := a5
    have f := fin S' _ (bumpL rs x).2 a1
    have n0 : ([] : List (List Int)).length + (bumpL rs x).2 = (bumpL rs x).2 := by simp
    rw [n0] at a5
    simp [le, rg, a5, f]
  · obtain ⟨S2, p1, p2⟩ := a1.push [.int x'] (by rw [pr_len]; simp; omega)
    have p2' : Nest R S2 n (pr (rs' ++ [[x']])) := by rw [← pr_app]; exact p2
    have a4 : forGo _ _ _ (rangeI 0 _) _ _ = _ := a4
    have km : ∀ (fs : Sig → AH → Res (List DV)) (δ : Sig), kMeth appendM fs δ (.c n) S' = (fs δ S').bind (kMeth2 appendM (.c n)) := fun fs δ => a1.meth
    have l2 := p2'.lenO
    rw [pr_len, List.length_append, a3] at l2
    have fi := fin _ _ rs.length p2'
    rw [a2]
    simp [le, rg, a4, km, p1, l2, fi]
theorem bump_ok {N : Nat} {rs : List (List Int)} (g : Good N rs) (hN : N < 1000) (hl : rs.length ≤ 1000) (x : Int) (S : AH) :
    d_law_bump [.p (.lst ((pr rs).map PV.lst)), .p (.int x)] S = .ok (.p (.tup [.lst ((pr (bumpL rs x).1).map PV.lst), .int (((bumpL rs x).2 : Nat) : Int)])) S := by
  have Ne := nest_new S (pr rs)
  have a3 := bump_fin Ne g hN hl x
  have hz : (dit ((pr rs).map PV.lst)).length ≤ 16777216 := by rw [dit_len, List.length_map, pr_len]; omega
  have lc := fun δ => lcK_cells (q := .nm 2) (δ := δ) (fe := dCell (dAppF listF (dCons (dVar 2) dNil))) unl (xs := (pr rs).map PV.lst) (S := S)
  have e : (dSet 0 (dNest (dLcK (dSeqI (dVar 0)) (.nm 2) dYes (dCell (dAppF listF (dCons (dVar 2) dNil))) [2]))) [some (.p (.lst ((pr rs).map PV.lst))), some (.p (.int x)), none, none, none, none, none] S = .nx [some (.c (S.length + (pr rs).length)), some (.p (.int x)), none, none, none, none, none] (S ++ (pr rs).map Cell.lst ++ [.nst (List.range' S.length (pr rs).length)]) := by
    simp [ev_kLcK hz]
    rw [lc _ (fun v hv S => by
      obtain ⟨r, _, rfl⟩ := List.mem_map.mp hv
      refine ⟨_, rfl, ?_⟩
      have lf : kAppF listF [.p (.lst r)] S = .ok r S := kAppF_some rfl
      simp [wipeD, lf, unl])]
    simp [unl, List.map_map, Function.comp_def]
  unfold d_law_bump
  refine Eq.trans (dDef_ap (n := 2) (ds := [.p (.lst ((pr rs).map PV.lst)), .p (.int x)]) rfl) ?_
  unfold b_law_bump_
  show gcK S false (dSeq _ _ [some (.p (.lst ((pr rs).map PV.lst))), some (.p (.int x)), none, none, none, none, none] S) = _
  rw [ev_seq, e, seq_nx]
  exact a3
theorem bump_ok0 {n0 : Nat} {S : AH} (h0 : S[n0]? = some (.nst [])) (x : Int) :
    d_law_bump [.c n0, .p (.int x)] S = .ok (.p (.tup [.lst ((pr (bumpL [] x).1).map PV.lst), .int (((bumpL [] x).2 : Nat) : Int)])) S := by
  have Ne := nest_new S (pr [])
  have a3 := bump_fin (N := 0) Ne (fun q hq => by cases hq) (by omega) (by simp) x
  have hz : (dic []).length ≤ 16777216 := by simp
  have e : (dSet 0 (dNest (dLcK (dSeqI (dVar 0)) (.nm 2) dYes (dCell (dAppF listF (dCons (dVar 2) dNil))) [2]))) [some (.c n0), some (.p (.int x)), none, none, none, none, none] S = .nx [some (.c (S.length + (pr []).length)), some (.p (.int x)), none, none, none, none, none] (S ++ (pr []).map Cell.lst ++ [.nst (List.range' S.length (pr []).length)]) := by
    simp [ev_kSeqI_n h0]
    rw [ev_kLcK (by simp), lcK_nil h0]
    simp [pr]
  unfold d_law_bump
  refine Eq.trans (dDef_ap (n := 2) (ds := [.c n0, .p (.int x)]) rfl) ?_
  unfold b_law_bump_
  show gcK S false (dSeq _ _ [some (.c n0), some (.p (.int x)), none, none, none, none, none] S) = _
  rw [ev_seq, e, seq_nx]
  exact a3
theorem lc_dic {ck : AH → Prop} {q : Pat} {fe : Sig → AH → Res DV} {δ : Sig} {S : AH} (hck : ck S) (g : Nat → PV) : ∀ {ks : List Nat}, (∀ k ∈ ks, ∃ δ2, q.set (.c k) δ = some δ2 ∧ fe δ2 S = .ok (.p (g k)) S) → lcGo ck q dYes fe δ (dic ks) S = .ok (ks.map g) S
  | [], _ => lc_nil hck
  | k :: ks, h => by
    obtain ⟨δ2, h1, h2⟩ := h k List.mem_cons_self
    rw [dic_cons, lc_take hck h1 rfl h2, lc_dic hck g fun y hy => h y (List.mem_cons_of_mem _ hy)]
    rfl
theorem frozen_lst {rs : List (List Int)} (hl : rs.length ≤ 1000) (S : AH) : d_law_frozen [.p (.lst ((pr rs).map PV.lst))] S = .ok (.p (.tup (tabV rs))) S := by
  have hz : (dit ((pr rs).map PV.lst)).length ≤ 16777216 := by rw [dit_len, List.length_map, pr_len]; omega
  simp [d_law_frozen, b_law_frozen_, ev_kLc hz]
  rw [lc_map trivial (fun v => .tup (unl v)) (fun v hv => by
    obtain ⟨r, _, rfl⟩ := List.mem_map.mp hv
    exact ⟨_, rfl, by simp [wipeD, unl]⟩)]
  have e : ((pr rs).map PV.lst).map (fun v => PV.tup (unl v)) = tabV rs := by
    unfold pr tabV
    rw [List.map_map, List.map_map]
    rfl
  rw [e]
  simp
theorem frozen_nest {R S : AH} {n : Nat} {rs : List (List Int)} (Ne : Nest R S n (pr rs)) (hl : rs.length ≤ 1000) : d_law_frozen [.c n] S = .ok (.p (.tup (tabV rs))) S := by
  obtain ⟨ks, N⟩ := Ne
  have kl : ks.length = rs.length := by rw [N.len, pr_len]
  have hz : (dic ks).length ≤ 16777216 := by rw [dic_len]; omega
  simp [d_law_frozen, b_law_frozen_, ev_kSeqI_n N.nst, ev_kLc hz]
  rw [lc_dic (by exact N.nst) (fun k => match S[k]? with | some (.lst xs) => .tup xs | _ => .non) (fun k hk => by
    obtain ⟨j, hj⟩ := List.mem_iff_getElem?.mp hk
    have e := N.row j k hj
    exact ⟨_, rfl, by simp [wipeD, e, tupleO_c e]⟩)]
  have e : ks.map (fun k => match S[k]? with | some (.lst xs) => PV.tup xs | _ => .non) = tabV rs := by
    refine List.ext_getElem (by simp [tabV, kl]) fun i h1 h2 => ?_
    have hi : i < ks.length := by simpa using h1
    have hr : i < rs.length := by rw [← kl]; exact hi
    have e := N.row i ks[i] (List.getElem?_eq_getElem hi)
    rw [pr_at hr] at e
    simp only [List.getElem_map, e]
    simp [tabV, rowAt, hr]
  rw [e]
  simp
/-- what p may be between two turns: the first nest, empty, or frozen rows -/
def PSt (S : AH) (ps : List (List Int)) (d : DV) : Prop := (d = .c S.length ∧ ps = []) ∨ d = .p (.lst ((pr ps).map PV.lst))
theorem bump_any {S S' : AH} {N : Nat} {ps : List (List Int)} {d : DV} (h : PSt S ps d) (g : Good N ps) (h0 : S'[S.length]? = some (.nst [])) (hN : N < 1000) (hl : ps.length ≤ 1000) (x : Int) :
    d_law_bump [d, .p (.int x)] S' = .ok (.p (.tup [.lst ((pr (bumpL ps x).1).map PV.lst), .int (((bumpL ps x).2 : Nat) : Int)])) S' := by
  rcases h with ⟨rfl, rfl⟩ | rfl
  · exact bump_ok0 h0 x
  · exact bump_ok g hN hl x S'
theorem drop_cons_at {w : List Int} {m : Nat} (h : m < w.length) : w.drop m = itAt w m :: w.drop (m + 1) := by
  rw [it_get h]; exact List.drop_eq_getElem_cons h
theorem pair_loop (w : List Int) (S : AH) (hw : w.length ≤ 900) : ∀ (m k : Nat) (d : DV) (S' : AH) (d3 d4 : Option DV), k + m = w.length → PSt S (pairL (w.drop m)).1 d → Nest (S ++ [.nst []]) S' (S.length + 1) (pr (pairL (w.drop m)).2) →
    ∃ d' S2 e3 e4, PSt S (pairL w).1 d' ∧ Nest (S ++ [.nst []]) S2 (S.length + 1) (pr (pairL w).2) ∧
      forGo ckT (.nm 3) L0_law_pair (rangeI k m) [some (.p (tupI w)), some d, some (.c (S.length + 1)), d3, d4] S' = .nx [some (.p (tupI w)), some d', some (.c (S.length + 1)), e3, e4] S2
  | 0, k, d, S', d3, d4, h, P, N => ⟨d, S', d3, d4, P, N, for_nil⟩
  | m + 1, k, d, S', d3, d4, h, P, N => by
    have h0 : S'[S.length]? = some (.nst []) := by
      have e := N.pre
      have : (S ++ [Cell.nst []])[S.length]? = some (.nst []) := by simp
      rw [← e, List.getElem?_take_of_lt (by simp)] at this
      exact this
    have hk : w.length - 1 - k < w.length := by omega
    have rx := row_ix (r := w) hk
    have ek : (w.length : Int) - 1 - (k : Int) = ((w.length - 1 - k : Nat) : Int) := by omega
    have em : w.length - 1 - k = m := by omega
    rw [em] at rx ek
    have dl : (w.drop (m + 1)).length = k := by rw [List.length_drop]; omega
    have dc := drop_cons_at (w := w) (m := m) (by omega)
    have gd := pairL_good (w.drop (m + 1))
    have ln := pairL_len (w.drop (m + 1))
    rw [dl] at gd ln
    have lb := bumpL_len (rs := (pairL (w.drop (m + 1))).1) (x := itAt w m)
    have a3 := bump_any P gd.1 h0 (by omega) (by omega) (itAt w m)
    have ep : pairL (w.drop m) = ((bumpL (pairL (w.drop (m + 1))).1 (itAt w m)).1, addBox (pairL (w.drop (m + 1))).2 (bumpL (pairL (w.drop (m + 1))).1 (itAt w m)).2 ((k : Int) + 1)) := by
      rw [dc, pairL, dl]
    generalize pairL (w.drop (m + 1)) = pq at *
    obtain ⟨ps, qs⟩ := pq
    simp only at gd ln lb a3 ep P N
    have le := N.lenO
    rw [pr_len] at le
    generalize eb : bumpL ps (itAt w m) = b at *
    obtain ⟨ps', i'⟩ := b
    simp only at lb a3 ep
    have turn : ∃ S2, Nest (S ++ [.nst []]) S2 (S.length + 1) (pr (addBox qs i' ((k : Int) + 1))) ∧ L0_law_pair [some (.p (tupI w)), some d, some (.c (S.length + 1)), some (.p (.int (k : Int))), d4] S' = .nx [some (.p (tupI w)), some (.p (.lst ((pr ps').map PV.lst))), some (.c (S.length + 1)), some (.p (.int (k : Int))), some (.p (.int (i' : Int)))] S2 := by
      by_cases q1 : i' = qs.length
      · obtain ⟨S1, p1, p2⟩ := N.push [] (by rw [pr_len]; omega)
        have p2' : Nest (S ++ [.nst []]) S1 (S.length + 1) (pr (qs ++ [[]])) := by rw [← pr_app]; exact p2
        have hi : i' < (qs ++ [[]]).length := by rw [List.length_append]; simp; omega
        obtain ⟨c, e1, e2, e3, e4, e5⟩ := p2'.ix (i := i') (by simpa using hi)
        rw [pr_at hi] at e2
        have er : rowAt (qs ++ [[]]) i' = [] := by
          unfold rowAt
          subst q1
          simp
        rw [er] at e2
        have ap : ∀ y : PV, appendM (.c c) [.p y] S1 = some (.p .non, S1.set c (.lst ([y]))) := fun y => append_c e2 (by simp)
        have km : ∀ (fs : Sig → AH → Res (List DV)) (δ : Sig), kMeth appendM fs δ (.c c) S1 = (fs δ S1).bind (kMeth2 appendM (.c c)) := fun fs δ => kMeth_c e2
        have kn : ∀ (fs : Sig → AH → Res (List DV)) (δ : Sig), kMeth appendM fs δ (.c (S.length + 1)) S' = (fs δ S').bind (kMeth2 appendM (.c (S.length + 1))) := fun fs δ => N.meth
        have e6 := e5 ([(k : Int) + 1].map PV.int)
        rw [pr_set] at e6
        have eA : (qs ++ [[]]).set i' [(k : Int) + 1] = addBox qs i' ((k : Int) + 1) := by
          unfold addBox
          rw [if_pos q1]
          subst q1
          simp
        rw [eA] at e6
        refine ⟨_, e6, ?_⟩
        subst q1
        simp [L0_law_pair, ek, rx, a3, asg2, le, kn, p1, e1, km, ap]
      · have hi : i' < qs.length := by omega
        obtain ⟨c, e1, e2, e3, e4, e5⟩ := N.ix (i := i') (by simpa using hi)
        rw [pr_at hi] at e2
        have rz := gd.2.at hi
        have ap : ∀ y : PV, appendM (.c c) [.p y] S' = some (.p .non, S'.set c (.lst ((rowAt qs i').map PV.int ++ [y]))) := fun y => append_c e2 (by rw [List.length_map]; omega)
        have km : ∀ (fs : Sig → AH → Res (List DV)) (δ : Sig), kMeth appendM fs δ (.c c) S' = (fs δ S').bind (kMeth2 appendM (.c c)) := fun fs δ => kMeth_c e2
        have e6 := e5 ((rowAt qs i' ++ [(k : Int) + 1]).map PV.int)
        rw [pr_set] at e6
        have eA : qs.set i' (rowAt qs i' ++ [(k : Int) + 1]) = addBox qs i' ((k : Int) + 1) := by
          unfold addBox
          rw [if_neg q1]
        rw [eA] at e6
        refine ⟨_, e6, ?_⟩
        have nd : decide ((i' : Int) = (qs.length : Int)) = false := decide_eq_false (by omega)
        simp [L0_law_pair, ek, rx, a3, asg2, le, nd, e1, km, ap]
    obtain ⟨S2, n2, et⟩ := turn
    obtain ⟨d', S3, f3, f4, r1, r2, r3⟩ := pair_loop w S hw m (k + 1) (.p (.lst ((pr ps').map PV.lst))) S2 (some (.p (.int (k : Int)))) (some (.p (.int (i' : Int)))) (by omega) (by rw [ep]; exact .inr rfl) (by rw [ep]; exact n2)
    refine ⟨d', S3, f3, f4, r1, r2, ?_⟩
    rw [range_succ, for_nm]
    show afterTurn (L0_law_pair [some (.p (tupI w)), some d, some (.c (S.length + 1)), some (.p (.int (k : Int))), d4] S') _ = _
    rw [et, after_nx]
    exact r3
theorem nest_empty (S : AH) : Nest (S ++ [.nst []]) (S ++ [.nst [], .nst []]) (S.length + 1) (pr []) := by
  have := nest_new (S ++ [.nst []]) (pr [])
  simpa [pr] using this
theorem pair_ok {w : List Int} (hw : w.length ≤ 900) (S : AH) : d_law_pair [.p (tupI w)] S = .ok (.p (.tup [.tup (tabV (pairL w).1), .tup (tabV (pairL w).2)])) S := by
  have ed : w.drop w.length = [] := List.drop_length
  obtain ⟨d, S2, e3, e4, P, N, e⟩ := pair_loop w S hw w.length 0 (.c S.length) (S ++ [.nst [], .nst []]) none none (by omega) (by rw [ed]; exact .inl ⟨rfl, rfl⟩) (by rw [ed]; exact nest_empty S)
  have e : forGo _ _ _ (rangeI 0 _) _ _ = _ := e
  have ln := pairL_len w
  have rg := rg_len w.length (by omega)
  have f2 := frozen_nest N (by omega)
  have pre := N.pre
  have h0 : S2[S.length]? = some (.nst []) := by
    have : (S ++ [Cell.nst []])[S.length]? = some (.nst []) := by simp
    rw [← pre, List.getElem?_take_of_lt (by simp)] at this
    exact this
  have tk : S2.take S.length = S := by
    have := congrArg (List.take S.length) pre
    rw [List.take_take] at this
    simpa using this
  have f1 : d_law_frozen [d] S2 = .ok (.p (.tup (tabV (pairL w).1))) S2 := by
    rcases P with ⟨rfl, z⟩ | rfl
    · have N0 : Nest S S2 S.length (pr []) := ⟨[], tk, h0, by simp, Nat.le_refl _, by simp, by simp, by simp, fun i k e => by simp at e⟩
      rw [z]
      exact frozen_nest N0 (by simp)
    · exact frozen_lst (by omega) S2
  have ok : okC S.length S S2 := okC_take tk
  simp [d_law_pair, b_law_pair_, rg, e, f1, f2, ok, tk]
end DL
namespace DL
open PySem L2
/-! ### a letter taken back, walked -/
theorem rowAt_app {dn rest : List (List Int)} {r : List Int} {n : Nat} (h : dn.length = n) : rowAt (dn ++ r :: rest) n = r := by
  subst h
  unfold rowAt; simp
theorem tabV_set (dn : List (List Int)) (r q : List Int) (rest : List (List Int)) : (tabV (dn ++ r :: rest)).set dn.length (tupI q) = tabV (dn ++ q :: rest) := by
  unfold tabV
  rw [← List.map_set]
  simp
theorem cut_tab_to (T : List (List Int)) (i : Nat) : cutL (tabV T) none (some (i : Int)) = tabV (T.take i) := by unfold tabV; rw [cutL_map, cut_to]
theorem cut_tab_from (T : List (List Int)) (i : Nat) : cutL (tabV T) (some ((i : Int) + 1)) none = tabV (T.drop (i + 1)) := by
  unfold tabV
  rw [cutL_map, show ((i : Int) + 1) = ((i + 1 : Nat) : Int) by omega, cut_from]
def wob (T : List (List Int)) (i : Nat) : List (List Int) := if (rowAt T i).length = 1 then T.take i else T.take i ++ (rowAt T i).dropLast :: T.drop (i + 1)
theorem slt_to (T : List (List Int)) (i : Nat) (S : AH) : slO (.p (.tup (tabV T))) none (some (i : Int)) S = some (.p (.tup (tabV (T.take i))), S) := by rw [← cut_tab_to]; rfl
theorem slt_from (T : List (List Int)) (i : Nat) (S : AH) : slO (.p (.tup (tabV T))) (some ((i : Int) + 1)) none S = some (.p (.tup (tabV (T.drop (i + 1)))), S) := by rw [← cut_tab_from]; rfl
theorem wob_ok {T : List (List Int)} (hl : T.length ≤ 900) {i : Nat} (hi : i < T.length) (hz : ∀ r ∈ T, r ≠ [] ∧ r.length ≤ 900) (S : AH) : d_without_box [.p (.tup (tabV T)), .p (.int (i : Int))] S = .ok (.p (.tup (tabV (wob T i)))) S := by
  have t1 := tab_ix hi
  obtain ⟨rn, rz⟩ := hz _ (rowAt_mem hi)
  have le : ∀ S : AH, lenO [.p (tupI (rowAt T i))] S = some (.p (.int ((rowAt T i).length : Int)), S) := fun S => by
    show some (DV.p (.int (((rowAt T i).map PV.int).length : Nat)), S) = _
    rw [List.length_map]
  have s1 := slt_to T i
  have s2 := slt_from T i
  unfold wob
  by_cases c : (rowAt T i).length = 1
  · rw [if_pos c]
    rw [c] at le
    generalize tabV (T.take i) = A at *
    generalize tabV T = V at *
    generalize tupI (rowAt T i) = R at *
    have le : ∀ S : AH, lenO [.p R] S = some (.p (.int 1), S) := le
    simp [d_without_box, b_without_box_, t1, le, s1]
  · rw [if_neg c]
    have nd : decide (((rowAt T i).length : Int) = 1) = false := decide_eq_false (by omega)
    have s3 : ∀ S : AH, slO (.p (tupI (rowAt T i))) none (some (-1)) S = some (.p (tupI (rowAt T i).dropLast), S) := fun S => by
      show some (DV.p (.tup (cutL ((rowAt T i).map PV.int) none (some (-1)))), S) = _
      rw [cutL_map]
      have : cutL (rowAt T i) none (some (-1)) = (rowAt T i).dropLast := by
        have hp : 0 < (rowAt T i).length := by
          have : (rowAt T i).length ≠ 0 := fun e => rn (List.length_eq_zero_iff.mp e)
          omega
        unfold cutL
        have e1 : HT.sIx (rowAt T i).length 0 none = 0 := rfl
        have e2 : HT.sIx (rowAt T i).length (rowAt T i).length (some (-1)) = (rowAt T i).length - 1 := by
          unfold HT.sIx
          simp
          omega
        rw [e1, e2, List.drop_zero, Nat.sub_zero, List.dropLast_eq_take]
      rw [this]
    have a1 : ∀ S : AH, addO (.p (.tup (tabV (T.take i)))) (.p (.tup [tupI (rowAt T i).dropLast])) S = some (.p (.tup (tabV (T.take i) ++ [tupI (rowAt T i).dropLast])), S) := fun S => addO_tup (by rw [tabV_len]; simp; omega)
    have a2 : ∀ S : AH, addO (.p (.tup (tabV (T.take i) ++ [tupI (rowAt T i).dropLast]))) (.p (.tup (tabV (T.drop (i + 1))))) S = some (.p (.tup (tabV (T.take i ++ (rowAt T i).dropLast :: T.drop (i + 1)))), S) := fun S => by
      rw [addO_tup (by rw [List.length_append, tabV_len, tabV_len]; simp; omega)]
      simp [tabV]
    generalize tabV (T.take i ++ (rowAt T i).dropLast :: T.drop (i + 1)) = W at *
    generalize tabV (T.take i) = A at *
    generalize tabV (T.drop (i + 1)) = B at *
    generalize tabV T = V at *
    generalize tupI (rowAt T i).dropLast = R2 at *
    generalize tupI (rowAt T i) = R at *
    simp [d_without_box, b_without_box_, t1, le, nd, s1, s2, s3, a1, a2]
theorem down_go (i : Int) (n : Nat) : rangeC i (-1) (n + 1) = .p (.int i) :: rangeC (i - 1) (-1) n := by
  have e : ∀ (i : Int) (n : Nat), rangeC i (-1) n = (List.range n).map fun (k : Nat) => DV.p (.int (i + (k : Int) * -1)) := fun i n => rfl
  rw [e, e, List.range_succ_eq_map, List.map_cons, List.map_map]
  congr 1
  · simp
  · refine List.map_congr_left fun k _ => ?_
    show DV.p (.int (i + ((k + 1 : Nat) : Int) * -1)) = _
    congr 2
    omega
theorem rg3 {i j : Int} (hi : -1000 ≤ i ∧ i ≤ 1000) (hj : -1000 ≤ j ∧ j ≤ 1000) (fs : Sig → AH → Res (List DV)) (δ : Sig) (S S' : AH) (h : fs δ S = .ok [.p (.int i), .p (.int j), .p (.int (-1))] S') : dRng3 fs δ S = .ok (rangeC i (-1) (i - j).toNat, fun _ => True) S' := by
  unfold dRng3
  rw [h]
  show (if (-1 : Int) = -1 ∧ small62 i ∧ small62 j then _ else _) = _
  rw [if_pos ⟨rfl, small62_of (by omega), small62_of (by omega)⟩]
/-- the row changed -/
theorem row_taken {r : List Int} {c : Int} (hs : Srt r) (hn : r ≠ []) (h : ∀ a R, r = a :: R → a < c) : ∃ k < r.length, (ur r c).1 = r.set k c ∧ (ur r c).2 = itAt r k ∧ ((List.range r.length).filter fun j => decide (itAt r j < c)) ≠ [] ∧ maxI (((List.range r.length).filter fun j => decide (itAt r j < c)).map fun (j : Nat) => (j : Int)) = (k : Int) := by
  obtain ⟨A, B, h1, h2, h3, h4⟩ := ur_split hs hn h
  have hk : A.length < r.length := by rw [h1]; simp
  have ik : itAt r A.length = (ur r c).2 := by
    unfold itAt
    conv => lhs; rw [h1]
    simp
  have low : ∀ j < r.length, itAt r j < c ↔ j ≤ A.length := fun j hj => by
    constructor
    · intro hj2
      refine Nat.le_of_not_lt fun q => ?_
      have : itAt r j ∈ B := by
        unfold itAt
        rw [h1, List.getD_eq_getElem?_getD, List.getElem?_append_right (by omega)]
        obtain ⟨d, hd⟩ : ∃ d, j - A.length = d + 1 := ⟨j - A.length - 1, by omega⟩
        rw [hd, List.getElem?_cons_succ]
        have : d < B.length := by
          have := congrArg List.length h1
          rw [List.length_append, List.length_cons] at this
          omega
        rw [List.getElem?_eq_getElem this]
        exact List.getElem_mem this
      have := h4 _ this
      omega
    · intro q
      by_cases e : j = A.length
      · rw [e, ik]; exact h3
      · have hjA : j < A.length := by omega
        have m : itAt r j ∈ A := by
          unfold itAt
          rw [h1, List.getD_eq_getElem?_getD, List.getElem?_append_left hjA, List.getElem?_eq_getElem hjA]
          exact List.getElem_mem hjA
        rw [h1] at hs
        have := (srt_app.mp hs).2.2 _ m _ List.mem_cons_self
        omega
  have mem : ∀ j, j ∈ ((List.range r.length).filter fun j => decide (itAt r j < c)) ↔ j ≤ A.length := fun j => by
    rw [List.mem_filter, List.mem_range, decide_eq_true_iff]
    constructor
    · rintro ⟨a, b⟩; exact (low j a).mp b
    · intro a; exact ⟨by omega, (low j (by omega)).mpr a⟩
  have ne : ((List.range r.length).filter fun j => decide (itAt r j < c)) ≠ [] := fun e => by
    have := (mem A.length).mpr (Nat.le_refl _)
    rw [e] at this
    cases this
  refine ⟨A.length, hk, ?_, ik.symm, ne, ?_⟩
  · rw [h2]
    conv => rhs; rw [h1]
    simp
  · obtain ⟨m1, m2⟩ := maxI_mem (((List.range r.length).filter fun j => decide (itAt r j < c)).map fun (j : Nat) => (j : Int)) (by simpa using ne)
    obtain ⟨j, hj, e⟩ := List.mem_map.mp m1
    have a := (mem j).mp hj
    have b := m2 (A.length : Int) (List.mem_map.mpr ⟨A.length, (mem _).mpr (Nat.le_refl _), rfl⟩)
    omega
theorem unb_lt {r : List Int} {T : List (List Int)} {i : Nat} (hT : Tab (r :: T)) (h : Cor T i) : ∀ a R, r = a :: R → a < (unb T i).2 := by
  obtain ⟨t1, t2, t3⟩ := unb_all hT.tl h
  cases T with
  | nil => exact absurd h.1 (by simp)
  | cons s U =>
    obtain ⟨A, B, B', a1, -⟩ := t3 s U rfl
    have hm : ∀ {x : Int}, s = A ++ x :: B → x ∈ s := fun e => by rw [e]; simp
    exact bl_head hT.hd (tab_bl0 hT) (hm a1)
theorem tk_turn {S : AH} {F : List PV} {r : List Int} {k : Nat} (hk : F[k]? = some (tupI r)) (hs : Srt r) (hn : r ≠ []) (hz : r.length ≤ 900) {c : Int} (h : ∀ a R, r = a :: R → a < c) (d0 d1 d5 d6 d7 : Option DV) : ∃ e5 e6, L0_taken [d0, d1, some (.p (.int c)), some (.c S.length), some (.p (.int (k : Int))), d5, d6, d7] (S ++ [.lst F]) = .nx [d0, d1, some (.p (.int (ur r c).2)), some (.c S.length), some (.p (.int (k : Int))), e5, e6, d7] (S ++ [.lst (F.set k (tupI (ur r c).1))]) := by
  obtain ⟨j, hj, u1, u2, fn, fm⟩ := row_taken hs hn h
  obtain ⟨hkl, _⟩ := List.getElem?_eq_some_iff.mp hk
  have ik : ixO (.c S.length) (.p (.int (k : Int))) (S ++ [.lst F]) = some (.p (tupI r), S ++ [.lst F]) := ixO_c last_get (atI_nat hk)
  have le : ∀ S : AH, lenO [.p (tupI r)] S = some (.p (.int (r.length : Int)), S) := fun S => by
    show some (DV.p (.int ((r.map PV.int).length : Nat)), S) = _
    rw [List.length_map]
  have rg := rg_len r.length (by omega)
  have hz' : (rangeI 0 r.length).length ≤ 16777216 := by rw [rangeI_len]; omega
  have it : ∀ j < r.length, ∀ S, ixO (.p (tupI r)) (.p (.int (j : Int))) S = some (.p (.int (itAt r j)), S) := fun j hj S => row_ix hj S
  have lcf : ∀ (d3 d6 : Option DV) (S : AH), lcGo ckT (.nm 7) (blOf (dBin ltO (dBin ixO (dVar 5) (dVar 7)) (dVar 2))) (dVar 7) [d0, d1, some (.p (.int c)), d3, some (.p (.int (k : Int))), some (.p (tupI r)), d6, none] (rangeI 0 r.length) S = .ok ((((List.range r.length).filter fun j => decide (itAt r j < c)).map fun (j : Nat) => (j : Int)).map PV.int) S := fun d3 d6 S => by
    rw [lc_rfilter (fun j => decide (itAt r j < c)) (fun j => .int (j : Int)) (fun j hj => by simp [it j hj]) (fun j hj _ => by simp), List.map_map]
    rfl
  have mx := fun S => max_lst (l := ((List.range r.length).filter fun j => decide (itAt r j < c)).map fun (j : Nat) => (j : Int)) (S := S) (by simpa using fn)
  rw [fm] at mx
  have s1 : ∀ S : AH, slO (.p (tupI r)) none (some (j : Int)) S = some (.p (.tup ((r.take j).map PV.int)), S) := fun S => by
    show some (DV.p (.tup (cutL (r.map PV.int) none (some (j : Int)))), S) = _
    rw [cutL_map, cut_to]
  have s2 : ∀ S : AH, slO (.p (tupI r)) (some ((j : Int) + 1)) none S = some (.p (.tup ((r.drop (j + 1)).map PV.int)), S) := fun S => by
    show some (DV.p (.tup (cutL (r.map PV.int) (some ((j : Int) + 1)) none)), S) = _
    rw [cutL_map, show ((j : Int) + 1) = ((j + 1 : Nat) : Int) by omega, cut_from]
  have a1 : ∀ S : AH, addO (.p (.tup ((r.take j).map PV.int))) (.p (.tup [.int c])) S = some (.p (.tup ((r.take j).map PV.int ++ [.int c])), S) := fun S => addO_tup (by simp; omega)
  have a2 : ∀ S : AH, addO (.p (.tup ((r.take j).map PV.int ++ [.int c]))) (.p (.tup ((r.drop (j + 1)).map PV.int))) S = some (.p (tupI (ur r c).1), S) := fun S => by
    rw [addO_tup (by simp; omega), u1, List.set_eq_take_append_cons_drop, if_pos hj]
    simp [List.map_take, List.map_drop]
  have js : ∀ (y : PV) (δ : Sig), jSub3 (.c S.length) (.p y) (.p (.int (k : Int))) δ (S ++ [.lst F]) = .nx δ (S ++ [.lst (F.set k y)]) := fun y δ => by
    refine ev_jSub3 ?_
    rw [setIx_c (xs := F) last_get hkl]
    simp
  have ij := it j hj
  rw [← u2] at ij
  refine ⟨some (.p (tupI r)), some (.p (.int (j : Int))), ?_⟩
  generalize (((List.range r.length).filter fun j => decide (itAt r j < c)).map fun (j : Nat) => (j : Int)).map PV.int = ML at *
  generalize (r.take j).map PV.int = A at *
  generalize (r.drop (j + 1)).map PV.int = B at *
  generalize tupI (ur r c).1 = R2 at *
  generalize (ur r c).2 = y at *
  generalize tupI r = R at *
  simp [L0_taken, ik, le, rg, ev_kLc hz', wipeD, lcf, mx, s1, s2, a1, a2, js, ij]
theorem tk_loop {S : AH} {T : List (List Int)} (hT : Tab T) (hz : ∀ r ∈ T, r.length ≤ 900) (d0 d1 : Option DV) : ∀ (k i : Nat) (d4 d5 d6 d7 : Option DV), Cor (T.drop k) i → k ≤ T.length →
    ∃ e4 e5 e6, forGo ckT (.nm 4) L0_taken (rangeC ((k : Int) - 1) (-1) k) [d0, d1, some (.p (.int (unb (T.drop k) i).2)), some (.c S.length), d4, d5, d6, d7] (S ++ [.lst (tabV (T.take k ++ (unb (T.drop k) i).1))]) = .nx [d0, d1, some (.p (.int (unb T (k + i)).2)), some (.c S.length), e4, e5, e6, d7] (S ++ [.lst (tabV (unb T (k + i)).1)])
  | 0, i, d4, d5, d6, d7, _, _ => ⟨d4, d5, d6, by rw [Nat.zero_add, List.drop_zero, List.take_zero, List.nil_append]; exact for_nil⟩
  | k + 1, i, d4, d5, d6, d7, hc, hk => by
    have hkl : k < T.length := by omega
    have dk : T.drop k = rowAt T k :: T.drop (k + 1) := by
      unfold rowAt
      rw [List.drop_eq_getElem_cons hkl]
      simp [hkl]
    have tabd : ∀ (n : Nat) {T : List (List Int)}, Tab T → Tab (T.drop n) := by
      intro n
      induction n with
      | zero => intro T h; exact h
      | succ n ih =>
        intro T h
        cases T with
        | nil => exact .nil
        | cons r T => exact ih h.tl
    have hTk := tabd k hT
    rw [dk] at hTk
    have lt := unb_lt hTk hc
    have F : (tabV (T.take (k + 1) ++ (unb (T.drop (k + 1)) i).1))[k]? = some (tupI (rowAt T k)) := by
      unfold tabV
      rw [List.getElem?_map, List.getElem?_append_left (by rw [List.length_take]; omega), List.getElem?_take_of_lt (by omega), List.getElem?_eq_getElem hkl]
      unfold rowAt
      simp [hkl]
    obtain ⟨e5, e6, e⟩ := tk_turn (S := S) F hTk.hd hTk.ne (hz _ (rowAt_mem hkl)) lt d0 d1 d5 d6 d7
    have ub : unb (T.drop k) (i + 1) = ((ur (rowAt T k) (unb (T.drop (k + 1)) i).2).1 :: (unb (T.drop (k + 1)) i).1, (ur (rowAt T k) (unb (T.drop (k + 1)) i).2).2) := by rw [dk]; rfl
    have cor : Cor (T.drop k) (i + 1) := by
      rw [dk]
      exact ⟨by have := hc.1; simpa using this, hc.2⟩
    obtain ⟨f4, f5, f6, ih⟩ := tk_loop hT hz d0 d1 k (i + 1) (some (.p (.int (k : Int)))) e5 e6 d7 cor (by omega)
    refine ⟨f4, f5, f6, ?_⟩
    have st : (tabV (T.take (k + 1) ++ (unb (T.drop (k + 1)) i).1)).set k (tupI (ur (rowAt T k) (unb (T.drop (k + 1)) i).2).1) = tabV (T.take k ++ (unb (T.drop k) (i + 1)).1) := by
      have tk : T.take (k + 1) = T.take k ++ [rowAt T k] := by
        rw [List.take_succ_eq_append_getElem hkl]
        unfold rowAt
        simp [hkl]
      rw [ub, tk, List.append_assoc, List.singleton_append]
      have l : (T.take k).length = k := by rw [List.length_take]; omega
      have := tabV_set (T.take k) (rowAt T k) (ur (rowAt T k) (unb (T.drop (k + 1)) i).2).1 (unb (T.drop (k + 1)) i).1
      rw [l] at this
      exact this
    rw [st] at e
    have u2 : (unb (T.drop k) (i + 1)).2 = (ur (rowAt T k) (unb (T.drop (k + 1)) i).2).2 := by rw [ub]
    rw [u2] at ih
    rw [show ((k + 1 : Nat) : Int) - 1 = (k : Int) by omega, down_go, for_nm]
    show afterTurn (L0_taken [d0, d1, some (.p (.int (unb (T.drop (k + 1)) i).2)), some (.c S.length), some (.p (.int (k : Int))), d5, d6, d7] _) _ = _
    rw [e, after_nx, show k + 1 + i = k + (i + 1) by omega]
    exact ih
theorem wob_unb {T : List (List Int)} (hT : Tab T) {i : Nat} (hc : Cor T i) : wob T i = T.take i ++ (unb (T.drop i) 0).1 ∧ (unb (T.drop i) 0).2 = itAt (rowAt T i) ((rowAt T i).length - 1) := by
  have hi := hc.1
  have dk : T.drop i = rowAt T i :: T.drop (i + 1) := by
    unfold rowAt
    rw [List.drop_eq_getElem_cons hi]
    simp [hi]
  rw [dk]
  refine ⟨?_, ?_⟩
  · show wob T i = T.take i ++ dropB (rowAt T i) (T.drop (i + 1))
    unfold wob dropB
    by_cases c : (rowAt T i).length = 1
    · rw [if_pos c, if_pos c, List.append_nil]
    · rw [if_neg c, if_neg c]
  · show (rowAt T i).getLastD 0 = _
    have ne := hT.all _ (rowAt_mem hi)
    generalize rowAt T i = r at *
    unfold itAt
    rw [List.getLastD_eq_getLast?, List.getLast?_eq_getElem?, List.getD_eq_getElem?_getD]
theorem row_last {r : List Int} (h : r ≠ []) (S : AH) : ixO (.p (tupI r)) (.p (.int (-1))) S = some (.p (.int (itAt r (r.length - 1))), S) := by
  obtain ⟨l, x, rfl⟩ : ∃ l x, r = l ++ [x] := by
    rcases List.eq_nil_or_concat r with rfl | ⟨l, b, rfl⟩
    · exact absurd rfl h
    · exact ⟨l, b, by simp⟩
  have e : itAt (l ++ [x]) ((l ++ [x]).length - 1) = x := by unfold itAt; simp
  rw [e]
  exact ixO_tup (atI_map PV.int atI_last)
theorem taken_ok {T : List (List Int)} (hT : Tab T) (hl : T.length ≤ 900) (hz : ∀ r ∈ T, r.length ≤ 900) {i : Nat} (hc : Cor T i) (S : AH) : d_taken [.p (.tup (tabV T)), .p (.int (i : Int))] S = .ok (.p (.tup [.tup (tabV (unb T i).1), .int (unb T i).2])) S := by
  have hi := hc.1
  have ne := hT.all _ (rowAt_mem hi)
  have t1 := tab_ix hi
  have t2 := row_last ne
  have w := fun S => wob_ok hl hi (fun r hr => ⟨hT.all r hr, hz r hr⟩) S
  obtain ⟨w1, w2⟩ := wob_unb hT hc
  have cd : Cor (T.drop i) 0 := by
    have dk : T.drop i = rowAt T i :: T.drop (i + 1) := by
      unfold rowAt
      rw [List.drop_eq_getElem_cons hi]
      simp [hi]
    have h2 := hc.2
    refine ⟨by rw [dk]; simp, ?_⟩
    have r0 : rowAt (T.drop i) 0 = rowAt T i := by unfold rowAt; simp
    have r1 : rowAt (T.drop i) (0 + 1) = rowAt T (i + 1) := by unfold rowAt; simp
    rw [r0, r1]; exact h2
  obtain ⟨e4, e5, e6, e⟩ := tk_loop (S := S) hT hz (some (.p (.tup (tabV T)))) (some (.p (.int (i : Int)))) i 0 none none none none cd (by omega)
  rw [← w1, w2, Nat.add_zero] at e
  have lf : ∀ S : AH, listF [.p (.tup (tabV (wob T i)))] S = some (tabV (wob T i)) := fun S => listF_tup
  have tp : ∀ ys : List PV, tupleO [.c S.length] (S ++ [.lst ys]) = some (.p (.tup ys), S ++ [.lst ys]) := fun ys => tupleO_last
  have rg : ∀ (fs : Sig → AH → Res (List DV)) (δ : Sig) (S S' : AH), fs δ S = .ok [.p (.int ((i : Int) - 1)), .p (.int (-1)), .p (.int (-1))] S' → dRng3 fs δ S = .ok (rangeC ((i : Int) - 1) (-1) i, ckT) S' := fun fs δ S S' h => by
    have := rg3 (i := (i : Int) - 1) (j := -1) (by omega) (by omega) fs δ S S' h
    rw [this]
    congr 3
    omega
  generalize tabV (unb T i).1 = U at *
  generalize (unb T i).2 = y at *
  generalize itAt (rowAt T i) ((rowAt T i).length - 1) = z at *
  generalize tabV (wob T i) = WV at *
  generalize tabV T = V at *
  generalize tupI (rowAt T i) = R at *
  refine (dDef_ap rfl).trans ?_
  show gcK S false (b_taken_ [some (.p (.tup V)), some (.p (.int (i : Int))), none, none, none, none, none, none] S) = _
  have body : b_taken_ [some (.p (.tup V)), some (.p (.int (i : Int))), none, none, none, none, none, none] S = .rt (.p (.tup [.tup U, .int y])) (S ++ [.lst U]) := by
    have rgf : dRng3 (dCons (dBin subO (dVar 1) (dC (.int 1))) (dCons (dUn negO (dC (.int 1))) (dCons (dUn negO (dC (.int 1))) dNil))) [some (.p (.tup V)), some (.p (.int (i : Int))), some (.p (.int z)), some (.c S.length), none, none, none, none] (S ++ [.lst WV]) = .ok (rangeC ((i : Int) - 1) (-1) i, ckT) (S ++ [.lst WV]) := rg _ _ _ _ (by simp)
    simp [b_taken_, t1, t2, w, lf, kAppF, rgf, e, tp]
  rw [body, gc_rt (okC_app _ _ _), last_take]

end DL
namespace DL
open PySem L2
/-! ### the values that are judged: tuples of rows -/
inductive Simple : PV → Prop
  | non : Simple .non
  | bl (b : Bool) : Simple (.bl b)
  | int (i : Int) : Simple (.int i)
  | str (x : Str) : Simple (.str x)
inductive Row : PV → Prop
  | tup (xs : List PV) : (∀ x ∈ xs, Simple x) → xs.length ≤ 1000 → Row (.tup xs)
  | lst (xs : List PV) : xs.length ≤ 1000 → Row (.lst xs)
structure Val (vs : List PV) : Prop where
  r : ∀ v ∈ vs, Row v
  z : vs.length ≤ 1000
def rlen : PV → Nat
  | .tup xs => xs.length
  | .lst xs => xs.length
  | _ => 0
/-- has_rows -/
def hrT : Nat → Nat → List PV → Option Nat
  | _, t, [] => some t
  | b, t, .tup xs :: r => if xs.length < 1 ∨ b < xs.length then none else hrT xs.length (t + xs.length) r
  | _, _, _ :: _ => none
theorem hr_loop (V : DV) (S : AH) : ∀ (vs : List PV) (b t : Nat) (x : Option DV), (∀ v ∈ vs, Row v) →
    (∀ t', hrT b t vs = some t' → ∃ b' x', forGo ckT (.nm 3) L0_has_rows (dit vs) [some V, some (.p (.int b)), some (.p (.int t)), x] S = .nx [some V, some (.p (.int b')), some (.p (.int t')), x'] S) ∧
    (hrT b t vs = none → forGo ckT (.nm 3) L0_has_rows (dit vs) [some V, some (.p (.int b)), some (.p (.int t)), x] S = .rt (.p (.bl false)) S)
  | [], b, t, x, _ => ⟨fun t' e => (by cases e; exact ⟨b, x, by simp⟩), fun e => (by cases e)⟩
  | v :: vs, b, t, x, h => by
    rw [dit_cons, for_nm]
    cases h v List.mem_cons_self with
    | lst xs z => exact ⟨fun t' e => (by cases e), fun _ => by simp [L0_has_rows]⟩
    | tup xs hx z =>
      simp only [hrT]
      by_cases c1 : xs.length < 1
      · rw [if_pos (.inl c1)]
        have : xs = [] := List.length_eq_zero_iff.mp (by omega)
        subst this
        exact ⟨fun t' e => (by cases e), fun _ => by simp [L0_has_rows]⟩
      · have c1' : ¬ (xs.length : Int) < 1 := by omega
        by_cases c2 : b < xs.length
        · rw [if_pos (.inr c2)]
          exact ⟨fun t' e => (by cases e), fun _ => by simp [L0_has_rows, c1', c2]⟩
        · rw [if_neg (by omega)]
          obtain ⟨i1, i2⟩ := hr_loop V S vs xs.length (t + xs.length) (some (.p (.tup xs))) fun y hy => h y (List.mem_cons_of_mem _ hy)
          have st : L0_has_rows ([some V, some (.p (.int b)), some (.p (.int t)), x].set 3 (some (.p (.tup xs)))) S = .nx [some V, some (.p (.int xs.length)), some (.p (.int ((t + xs.length : Nat) : Int))), some (.p (.tup xs))] S := by
            simp [L0_has_rows, c1', c2]
          rw [st, after_nx]
          exact ⟨fun t' e => i1 t' e, fun e => i2 e⟩
def hrB (vs : List PV) : Bool := match hrT 12 0 vs with
  | some t => decide (t ≤ 12)
  | none => false
theorem hr_ok {vs : List PV} (h : Val vs) (S : AH) : d_has_rows [.p (.tup vs)] S = .ok (.p (.bl (hrB vs))) S := by
  obtain ⟨h1, h2⟩ := hr_loop (.p (.tup vs)) S vs 12 0 none h.r
  unfold hrB
  cases e : hrT 12 0 vs with
  | none =>
    have e := h2 e
    rw [show ((12 : Nat) : Int) = 12 from rfl, show ((0 : Nat) : Int) = 0 from rfl] at e
    simp [d_has_rows, b_has_rows_, e]
  | some t =>
    obtain ⟨b', x', e⟩ := h1 t e
    rw [show ((12 : Nat) : Int) = 12 from rfl, show ((0 : Nat) : Int) = 0 from rfl] at e
    simp [d_has_rows, b_has_rows_, e]
    by_cases c : t ≤ 12
    · have : (t : Int) ≤ 12 := by omega
      simp [c, this]
    · have : ¬ (t : Int) ≤ 12 := by omega
      simp [c, this]
end DL
namespace DL
open PySem L2
def isInt : PV → Bool
  | .int _ => true
  | _ => false
def isLet : PV → Bool
  | .int i => decide (1 ≤ i) && decide (i ≤ 6)
  | _ => false
theorem isint_any {x : PV} (h : Simple x) (S : AH) : d_is_integer [.p x] S = .ok (.p (.bl (isInt x))) S := by
  cases h <;> simp [d_is_integer, b_is_integer_, isInt]
def Desc (rows : List (List Int)) : Prop := ∀ i, i + 1 < rows.length → (rowAt rows (i + 1)).length ≤ (rowAt rows i).length
def ascJ (rows : List (List Int)) (i j : Nat) : Bool := !(decide (0 < j) && decide (itAt (rowAt rows i) j < itAt (rowAt rows i) (j - 1))) && !(decide (0 < i) && decide (itAt (rowAt rows i) j ≤ itAt (rowAt rows (i - 1)) j))
def ascI (rows : List (List Int)) (i : Nat) : Bool := (List.range (rowAt rows i).length).all (ascJ rows i)
def ascB (rows : List (List Int)) : Bool := (List.range rows.length).all (ascI rows)
theorem asc_ok {rows : List (List Int)} (hd : Desc rows) (hz : rows.length ≤ 1000) (hr : ∀ r ∈ rows, r.length ≤ 1000) (S : AH) : d_ascends [.p (.tup (tabV rows))] S = .ok (.p (.bl (ascB rows))) S := by
  have rl : ∀ i, (rowAt rows i).length ≤ 1000 := fun i => by
    unfold rowAt
    by_cases h : i < rows.length
    · rw [List.getD_eq_getElem?_getD, List.getElem?_eq_getElem h]
      exact hr _ (List.getElem_mem h)
    · rw [List.getD_eq_getElem?_getD, List.getElem?_eq_none (by omega)]; simp
  have inner : ∀ i < rows.length, ∀ x : Option DV, ((ascI rows i = true → ∃ δ', (∃ x, δ' = [some (.p (.tup (tabV rows))), some (.p (.int (i : Int))), x]) ∧ L1_ascends [some (.p (.tup (tabV rows))), some (.p (.int (i : Int))), x] S = .nx δ' S) ∧ (ascI rows i = false → L1_ascends [some (.p (.tup (tabV rows))), some (.p (.int (i : Int))), x] S = .rt (.p (.bl false)) S)) := fun i hi x => by
    have k := for_guard (S := S) (fb := L0_ascends) (i := 2) (d := .p (.bl false)) (fun δ => ∃ x, δ = [some (.p (.tup (tabV rows))), some (.p (.int (i : Int))), x]) (n := (rowAt rows i).length) (lo := 0) (b := ascJ rows i) (δ := [some (.p (.tup (tabV rows))), some (.p (.int (i : Int))), x]) ⟨x, rfl⟩ (fun j hj δ hδ => by
      obtain ⟨y, rfl⟩ := hδ
      have t1 := tab_ix hi
      have r1 := row_ix hj
      have key : L0_ascends ([some (.p (.tup (tabV rows))), some (.p (.int (i : Int))), y].set 2 (some (.p (.int ((0 : Int) + (j : Int)))))) S = if ascJ rows i j = true then .nx [some (.p (.tup (tabV rows))), some (.p (.int (i : Int))), some (.p (.int (j : Int)))] S else .rt (.p (.bl false)) S := by
        have z0 : ∀ m : Nat, (0 : Int) < (m : Int) ↔ 0 < m := fun m => by omega
        have sec : (blOf (dBin gtO (dVar 1) (dC (.int 0)))) [some (.p (.tup (tabV rows))), some (.p (.int (i : Int))), some (.p (.int (j : Int)))] S = .ok (decide (0 < i)) S := by simp
        have e2 : 0 < i → ∀ S : AH, ixO (.p (.tup (tabV rows))) (.p (.int ((i : Int) - 1))) S = some (.p (tupI (rowAt rows (i - 1))), S) := fun h S => by
          rw [show (i : Int) - 1 = ((i - 1 : Nat) : Int) by omega]
          exact tab_ix (by omega) S
        have e3 : 0 < i → ∀ S : AH, ixO (.p (.tup ((rowAt rows (i - 1)).map PV.int))) (.p (.int (j : Int))) S = some (.p (.int (itAt (rowAt rows (i - 1)) j)), S) := fun h S => by
          have := hd (i - 1) (by omega)
          rw [show i - 1 + 1 = i by omega] at this
          exact row_ix (by omega) S
        have e4 : 0 < j → ∀ S : AH, ixO (.p (.tup ((rowAt rows i).map PV.int))) (.p (.int ((j : Int) - 1))) S = some (.p (.int (itAt (rowAt rows i) (j - 1))), S) := fun h S => by
          rw [show (j : Int) - 1 = ((j - 1 : Nat) : Int) by omega]
          exact row_ix (by omega) S
        unfold ascJ
        by_cases c1 : 0 < j
        · by_cases c2 : itAt (rowAt rows i) j < itAt (rowAt rows i) (j - 1)
          · simp [L0_ascends, t1, r1, e4 c1, c1, c2]
          · by_cases c3 : 0 < i
            · by_cases c4 : itAt (rowAt rows i) j ≤ itAt (rowAt rows (i - 1)) j
              · simp [L0_ascends, t1, r1, e4 c1, e2 c3, e3 c3, c1, c2, c3, c4]
              · simp [L0_ascends, t1, r1, e4 c1, e2 c3, e3 c3, c1, c2, c3, c4]
            · simp [L0_ascends, t1, r1, e4 c1, c1, c2, c3]
        · by_cases c3 : 0 < i
          · by_cases c4 : itAt (rowAt rows i) j ≤ itAt (rowAt rows (i - 1)) j
            · simp [L0_ascends, t1, r1, e2 c3, e3 c3, c1, c3, c4]
            · simp [L0_ascends, t1, r1, e2 c3, e3 c3, c1, c3, c4]
          · simp [L0_ascends, c1, c3]
      rw [key]
      exact ⟨fun e => ⟨_, ⟨_, rfl⟩, by rw [if_pos e]⟩, fun e => by rw [e, if_neg Bool.false_ne_true]⟩)
    have rg := rg_len (rowAt rows i).length (by have := rl i; omega)
    have t1 := tab_ix hi
    have e0 : L1_ascends [some (.p (.tup (tabV rows))), some (.p (.int (i : Int))), x] S = forGo ckT (.nm 2) L0_ascends (rangeI 0 (rowAt rows i).length) [some (.p (.tup (tabV rows))), some (.p (.int (i : Int))), x] S := by
      simp [L1_ascends, t1, rg]
    rw [e0]
    exact k
  obtain ⟨o1, o2⟩ := for_guard (S := S) (fb := L1_ascends) (i := 1) (d := .p (.bl false)) (fun δ => ∃ x y, δ = [some (.p (.tup (tabV rows))), x, y]) (n := rows.length) (lo := 0) (b := ascI rows) (δ := [some (.p (.tup (tabV rows))), none, none]) ⟨_, _, rfl⟩ (fun i hi δ hδ => by
    obtain ⟨x, y, rfl⟩ := hδ
    rw [show (0 : Int) + (i : Int) = i by omega]
    obtain ⟨q1, q2⟩ := inner i hi y
    exact ⟨fun e => by
      obtain ⟨δ', ⟨x', rfl⟩, e'⟩ := q1 e
      exact ⟨_, ⟨_, _, rfl⟩, e'⟩, q2⟩)
  have rg := rg_len rows.length (by omega)
  cases e : ascB rows with
  | true =>
    obtain ⟨δ', _, e'⟩ := o1 e
    simp [d_ascends, b_ascends_, rg, e']
  | false =>
    have e' := o2 e
    simp [d_ascends, b_ascends_, rg, e']
end DL
namespace DL
open PySem L2
def isTup : PV → Bool
  | .tup _ => true
  | _ => false
def total (vs : List PV) : Nat := (vs.map rlen).sum
def chain : Nat → List PV → Prop
  | _, [] => True
  | b, v :: r => isTup v = true ∧ 1 ≤ rlen v ∧ rlen v ≤ b ∧ chain (rlen v) r
theorem hrT_iff : ∀ (vs : List PV) (b t t' : Nat), hrT b t vs = some t' ↔ chain b vs ∧ t' = t + total vs
  | [], b, t, t' => by simp [hrT, chain, total, eq_comm]
  | v :: vs, b, t, t' => by
    cases v with
    | tup xs =>
      simp only [hrT, chain, isTup, rlen, true_and]
      by_cases c : xs.length < 1 ∨ b < xs.length
      · rw [if_pos c]
        constructor
        · intro e; cases e
        · rintro ⟨⟨h1, h2, _⟩, _⟩; omega
      · rw [if_neg c, hrT_iff vs]
        have e : total (.tup xs :: vs) = xs.length + total vs := by simp [total, rlen]
        rw [e]
        constructor
        · rintro ⟨h1, rfl⟩; exact ⟨⟨by omega, by omega, h1⟩, by omega⟩
        · rintro ⟨⟨h1, h2, h3⟩, rfl⟩; exact ⟨h3, by omega⟩
    | _ => simp [hrT, chain, isTup]
theorem hrB_iff (vs : List PV) : hrB vs = true ↔ chain 12 vs ∧ total vs ≤ 12 := by
  unfold hrB
  cases e : hrT 12 0 vs with
  | none =>
    simp only [Bool.false_eq_true, false_iff]
    rintro ⟨h1, h2⟩
    have := (hrT_iff vs 12 0 (0 + total vs)).mpr ⟨h1, rfl⟩
    rw [e] at this; cases this
  | some t =>
    obtain ⟨h1, h2⟩ := (hrT_iff vs 12 0 t).mp e
    simp only [decide_eq_true_eq]
    constructor
    · intro h; exact ⟨h1, by omega⟩
    · intro h; omega
theorem chain_tup : ∀ {vs : List PV} {b : Nat}, chain b vs → ∀ v ∈ vs, isTup v = true ∧ 1 ≤ rlen v
  | [], _, _, v, hv => nomatch hv
  | x :: xs, b, h, v, hv => by
    rcases List.mem_cons.mp hv with rfl | hv
    · exact ⟨h.1, h.2.1⟩
    · exact chain_tup h.2.2.2 v hv
def toI : PV → Int
  | .int i => i
  | _ => 0
def toRow : PV → List Int
  | .tup xs => xs.map toI
  | _ => []
def toRows (vs : List PV) : List (List Int) := vs.map toRow
theorem toRow_len {v : PV} (h : isTup v = true) : (toRow v).length = rlen v := by
  cases v <;> simp_all [isTup, toRow, rlen]
theorem rowAt_len {vs : List PV} {i : Nat} (h : ∀ v ∈ vs, isTup v = true) (hi : i < vs.length) : (rowAt (toRows vs) i).length = rlen vs[i] := by
  unfold rowAt toRows
  rw [List.getD_eq_getElem?_getD, List.getElem?_eq_getElem (by simpa using hi)]
  simp only [Option.getD_some, List.getElem_map]
  exact toRow_len (h _ (List.getElem_mem hi))
theorem chain_desc : ∀ {vs : List PV} {b : Nat}, chain b vs → ∀ i (h : i + 1 < vs.length), rlen vs[i + 1] ≤ rlen vs[i]
  | [], _, _, i, hi => by simp at hi
  | [x], _, _, i, hi => by simp at hi
  | x :: y :: r, b, h, 0, _ => h.2.2.2.2.2.1
  | x :: y :: r, b, h, i + 1, hi => chain_desc (vs := y :: r) h.2.2.2 i (by simpa using hi)
theorem desc_of {vs : List PV} {b : Nat} (h : chain b vs) : Desc (toRows vs) := fun i hi => by
  have hi' : i + 1 < vs.length := by simpa [toRows] using hi
  rw [rowAt_len (fun v hv => (chain_tup h v hv).1) hi', rowAt_len (fun v hv => (chain_tup h v hv).1) (by omega)]
  exact chain_desc h i hi'
/-- items of a row that pass -/
def rowP (p : PV → Bool) : PV → Bool
  | .tup xs => xs.all p
  | _ => false
theorem rows_eq {vs : List PV} (h : ∀ v ∈ vs, rowP isInt v = true) : vs = tabV (toRows vs) := by
  unfold tabV toRows
  rw [List.map_map]
  conv => lhs; rw [← List.map_id vs]
  refine List.map_congr_left fun v hv => ?_
  have := h v hv
  cases v with
  | tup xs =>
    simp only [rowP, List.all_eq_true] at this
    show PV.tup xs = PV.tup ((xs.map toI).map PV.int)
    rw [List.map_map]
    congr 1
    conv => lhs; rw [← List.map_id xs]
    refine List.map_congr_left fun x hx => ?_
    have := this x hx
    cases x <;> simp_all [isInt, toI]
  | _ => cases this
theorem let_int {x : PV} (h : isLet x = true) : isInt x = true := by
  cases x <;> simp_all [isLet, isInt]
theorem rowP_let {v : PV} (h : rowP isLet v = true) : rowP isInt v = true := by
  cases v with
  | tup xs =>
    simp only [rowP, List.all_eq_true] at h ⊢
    exact fun x hx => let_int (h x hx)
  | _ => cases h
theorem rows_z {vs : List PV} (h : Val vs) : ∀ r ∈ toRows vs, r.length ≤ 1000 := fun r hr => by
  obtain ⟨v, hv, rfl⟩ := List.mem_map.mp hr
  cases h.r v hv with
  | tup xs hx z => simpa [toRow] using z
  | lst xs z => simp [toRow]
def tabB (vs : List PV) : Bool := hrB vs && vs.all (rowP isLet) && ascB (toRows vs)
theorem tab_ok {vs : List PV} (h : Val vs) (S : AH) : d_is_tableau [.p (.tup vs)] S = .ok (.p (.bl (tabB vs))) S := by
  have hr := hr_ok h
  unfold tabB
  cases e0 : hrB vs with
  | false => rw [e0] at hr; simp [d_is_tableau, b_is_tableau_, hr]
  | true =>
    rw [e0] at hr
    obtain ⟨ch, _⟩ := (hrB_iff vs).mp e0
    have hz := h.z
    obtain ⟨o1, o2⟩ := for_guardL (S := S) (fb := L1_is_tableau) (i := 1) (d := .p (.bl false)) (fun δ => ∃ x y, δ = [some (.p (.tup vs)), x, y]) (rowP isLet) (xs := vs) (δ := [some (.p (.tup vs)), none, none]) ⟨_, _, rfl⟩ (fun v hv δ hδ => by
      obtain ⟨x, y, rfl⟩ := hδ
      obtain ⟨ht, _⟩ := chain_tup ch v hv
      cases h.r v hv with
      | lst xs z => cases ht
      | tup xs hx z =>
        have k := for_guardL (S := S) (fb := L0_is_tableau) (i := 2) (d := .p (.bl false)) (fun δ => ∃ y, δ = [some (.p (.tup vs)), some (.p (.tup xs)), y]) isLet (xs := xs) (δ := [some (.p (.tup vs)), some (.p (.tup xs)), y]) ⟨_, rfl⟩ (fun x hx' δ hδ => by
          obtain ⟨y, rfl⟩ := hδ
          have ki := isint_any (hx x hx')
          have key : L0_is_tableau ([some (.p (.tup vs)), some (.p (.tup xs)), y].set 2 (some (.p x))) S = if isLet x = true then .nx [some (.p (.tup vs)), some (.p (.tup xs)), some (.p x)] S else .rt (.p (.bl false)) S := by
            cases hx x hx' with
            | int i =>
              by_cases c1 : i < 1
              · have : ¬ 1 ≤ i := by omega
                simp [L0_is_tableau, ki, isInt, isLet, c1, this]
              · by_cases c2 : 6 < i
                · have : ¬ i ≤ 6 := by omega
                  simp [L0_is_tableau, ki, isInt, isLet, c1, c2, this]
                · have t1 : 1 ≤ i := by omega
                  have t2 : i ≤ 6 := by omega
                  simp [L0_is_tableau, ki, isInt, isLet, c1, c2, t1, t2]
            | _ => simp [L0_is_tableau, ki, isInt, isLet]
          rw [key]
          exact ⟨fun e => ⟨_, ⟨_, rfl⟩, by rw [if_pos e]⟩, fun e => by rw [e, if_neg Bool.false_ne_true]⟩)
        have e0 : L1_is_tableau ([some (.p (.tup vs)), x, y].set 1 (some (.p (.tup xs)))) S = forGo ckT (.nm 2) L0_is_tableau (dit xs) [some (.p (.tup vs)), some (.p (.tup xs)), y] S := by
          simp [L1_is_tableau]
        rw [e0]
        exact ⟨fun e => by
          obtain ⟨δ', ⟨y', rfl⟩, e'⟩ := k.1 e
          exact ⟨_, ⟨_, _, rfl⟩, e'⟩, k.2⟩)
    cases e1 : vs.all (rowP isLet) with
    | false => simp [d_is_tableau, b_is_tableau_, hr, o2 e1]
    | true =>
      obtain ⟨δ', ⟨x', y', rfl⟩, e'⟩ := o1 e1
      have ev : vs = tabV (toRows vs) := rows_eq fun v hv => rowP_let (List.all_eq_true.mp e1 v hv)
      have as := asc_ok (desc_of ch) (by simpa [toRows] using hz) (rows_z h)
      rw [← ev] at as
      simp [d_is_tableau, b_is_tableau_, hr, e', as]
end DL
namespace DL
open PySem L2
def colK (rows : List (List Int)) (k : Nat) : Bool := (List.range (rowAt rows (k + 1)).length).all fun j => decide (itAt (rowAt rows k) j < itAt (rowAt rows (k + 1)) j)
def colB (rows : List (List Int)) : Bool := (List.range (rows.length - 1)).all (colK rows)
def srt (r : List Int) : Bool := decide (r = sortI r)
theorem sorted_iff : ∀ (r : List Int), srt r = true ↔ ∀ j, j + 1 < r.length → itAt r j ≤ itAt r (j + 1) := fun r => by
  unfold srt
  rw [decide_eq_true_eq]
  have h1 : r = sortI r ↔ r.Pairwise (· ≤ ·) := ⟨fun e => by rw [e]; exact sortI_sorted r, fun p => sortI_only (List.Perm.refl r) p⟩
  rw [h1]
  have g : ∀ k (hk : k < r.length), itAt r k = r[k] := fun k hk => by unfold itAt; rw [List.getD_eq_getElem?_getD, List.getElem?_eq_getElem hk]; rfl
  constructor
  · intro p j hj
    rw [g j (by omega), g (j + 1) hj]
    exact List.pairwise_iff_getElem.mp p j (j + 1) (by omega) hj (by omega)
  · intro h
    refine List.pairwise_iff_getElem.mpr fun i j hi hj hij => ?_
    have go : ∀ d, i + d < r.length → itAt r i ≤ itAt r (i + d) := by
      intro d
      induction d with
      | zero => intro _; exact Int.le_refl _
      | succ d ih => intro hd; exact Int.le_trans (ih (by omega)) (h (i + d) (by omega))
    have := go (j - i) (by omega)
    rw [show i + (j - i) = j by omega, g i hi, g j hj] at this
    exact this
theorem asc_iff {rows : List (List Int)} : ascB rows = true ↔ colB rows = true ∧ rows.all srt = true := by
  have rm : ∀ i, i < rows.length → rowAt rows i ∈ rows := fun i hi => by
    unfold rowAt; rw [List.getD_eq_getElem?_getD, List.getElem?_eq_getElem hi]; exact List.getElem_mem hi
  unfold ascB colB
  simp only [List.all_eq_true, List.mem_range]
  constructor
  · intro h
    refine ⟨fun k hk => ?_, fun r hr => ?_⟩
    · have := h (k + 1) (by omega)
      unfold ascI at this
      unfold colK
      rw [List.all_eq_true] at this ⊢
      intro j hj
      have q := this j hj
      unfold ascJ at q
      simp at q ⊢
      have := q.2
      omega
    · obtain ⟨i, hi, rfl⟩ := List.getElem_of_mem hr
      have er : rowAt rows i = rows[i] := by unfold rowAt; rw [List.getD_eq_getElem?_getD, List.getElem?_eq_getElem hi]; rfl
      rw [← er, sorted_iff]
      intro j hj
      have := h i hi
      unfold ascI at this
      rw [List.all_eq_true] at this
      have q := this (j + 1) (List.mem_range.mpr hj)
      unfold ascJ at q
      simp at q
      exact q.1
  · rintro ⟨h1, h2⟩ i hi
    unfold ascI
    rw [List.all_eq_true]
    intro j hj
    have hj := List.mem_range.mp hj
    have s := (sorted_iff _).mp (h2 _ (rm i hi))
    unfold ascJ
    have a1 : 0 < j → itAt (rowAt rows i) (j - 1) ≤ itAt (rowAt rows i) j := fun w => by
      have := s (j - 1) (by omega)
      rwa [show j - 1 + 1 = j by omega] at this
    have a2 : 0 < i → itAt (rowAt rows (i - 1)) j < itAt (rowAt rows i) j := fun w => by
      have := h1 (i - 1) (by omega)
      unfold colK at this
      rw [show i - 1 + 1 = i by omega, List.all_eq_true] at this
      have := this j (List.mem_range.mpr hj)
      simpa using this
    simp
    constructor
    · by_cases w : 0 < j
      · exact .inr (a1 w)
      · exact .inl (by omega)
    · by_cases w : 0 < i
      · exact .inr (a2 w)
      · exact .inl (by omega)
end DL
namespace DL
open PySem L2
/-! ### tableaux of words are tableaux to the program -/
theorem toRow_t (r : List Int) : toRow (tupI r) = r := by
  show (r.map PV.int).map toI = r
  rw [List.map_map]
  exact List.map_id _
theorem toRows_t (T : List (List Int)) : toRows (tabV T) = T := by
  unfold toRows tabV
  rw [List.map_map]
  have : T.map (toRow ∘ tupI) = T.map id := List.map_congr_left fun r _ => toRow_t r
  rw [this, List.map_id]
theorem rlen_t (r : List Int) : rlen (tupI r) = r.length := List.length_map _
theorem total_t (T : List (List Int)) : total (tabV T) = (shp T).sum := by
  unfold total tabV shp
  rw [List.map_map]
  congr 1
  exact List.map_congr_left fun r _ => rlen_t r
theorem bl_trn : ∀ {r s t : List Int}, Bl r s → Bl s t → Bl r t
  | r, s, [], _, _ => bl_nil r
  | r, [], _ :: _, _, h => h.elim
  | [], _ :: _, _ :: _, h, _ => h.elim
  | a :: r, b :: s, c :: t, h1, h2 => ⟨by have := h1.1; have := h2.1; omega, bl_trn h1.2 h2.2⟩
theorem tab_blA : ∀ {T : List (List Int)} {r : List Int}, Tab (r :: T) → ∀ s ∈ T, Bl r s
  | [], r, _, s, hs => by cases hs
  | q :: T, r, h, s, hs => by
    rcases List.mem_cons.mp hs with rfl | hs
    · exact tab_bl0 h
    · exact bl_trn (tab_bl0 h) (tab_blA h.tl s hs)
theorem le_sum {l : List Nat} {x : Nat} (h : x ∈ l) : x ≤ l.sum := by
  induction l with
  | nil => cases h
  | cons a l ih =>
    rw [List.sum_cons]
    rcases List.mem_cons.mp h with rfl | h
    · omega
    · have := ih h; omega
theorem chain_tb : ∀ {T : List (List Int)} {b : Nat}, Tab T → (∀ r ∈ T, r.length ≤ b) → chain b (tabV T)
  | [], b, _, _ => trivial
  | r :: T, b, h, hb => by
    have ne := h.ne
    have : r.length ≠ 0 := fun e => ne (List.length_eq_zero_iff.mp e)
    refine ⟨rfl, by rw [rlen_t]; omega, by rw [rlen_t]; exact hb r List.mem_cons_self, ?_⟩
    rw [rlen_t]
    exact chain_tb h.tl fun s hs => (tab_blA h s hs).len
theorem val_t {T : List (List Int)} (hl : T.length ≤ 900) (hz : ∀ r ∈ T, r.length ≤ 900) : Val (tabV T) := ⟨fun v hv => by
  obtain ⟨r, hr, rfl⟩ := List.mem_map.mp hv
  refine .tup _ (fun x hx => ?_) (by rw [List.length_map]; have := hz r hr; omega)
  obtain ⟨i, _, rfl⟩ := List.mem_map.mp hx
  exact .int i, by rw [tabV_len]; omega⟩
theorem bl_at : ∀ {r s : List Int} (j : Nat), Bl r s → j < s.length → itAt r j < itAt s j
  | r, [], j, _, h => by simp at h
  | [], _ :: _, _, h, _ => h.elim
  | a :: r, b :: s, 0, h, _ => h.1
  | a :: r, b :: s, j + 1, h, hj => bl_at j h.2 (by simpa using hj)
theorem asc_t {T : List (List Int)} (h : Tab T) : ascB T = true := by
  rw [asc_iff]
  constructor
  · unfold colB
    rw [List.all_eq_true]
    intro k hk
    have hk := List.mem_range.mp hk
    unfold colK
    rw [List.all_eq_true]
    intro j hj
    have hj := List.mem_range.mp hj
    rw [decide_eq_true_iff]
    refine bl_at j ?_ hj
    have : ∀ {T : List (List Int)}, Tab T → ∀ k, k + 1 < T.length → Bl (rowAt T k) (rowAt T (k + 1)) := by
      intro T
      induction T with
      | nil => intro _ k hk; simp at hk
      | cons r T ih =>
        intro h k hk
        cases k with
        | zero =>
          cases T with
          | nil => simp at hk
          | cons s U => exact tab_bl0 h
        | succ k => exact ih h.tl k (by simpa using hk)
    exact this h k (by omega)
  · rw [List.all_eq_true]
    intro r hr
    unfold srt
    rw [decide_eq_true_iff]
    exact sortI_only (.refl _) (h.srt r hr)
theorem tabB_t {T : List (List Int)} (h : Tab T) (hm : ∀ r ∈ T, ∀ a ∈ r, 1 ≤ a ∧ a ≤ 6) (hs : (shp T).sum ≤ 12) : tabB (tabV T) = true := by
  have hr : ∀ r ∈ T, r.length ≤ 12 := fun r hr => by
    have : r.length ∈ shp T := List.mem_map.mpr ⟨r, hr, rfl⟩
    have := le_sum this
    omega
  unfold tabB
  rw [toRows_t, asc_t h, (hrB_iff _).mpr ⟨chain_tb h hr, by rw [total_t]; exact hs⟩]
  simp only [Bool.true_and, Bool.and_true]
  rw [List.all_eq_true]
  intro v hv
  obtain ⟨r, hr, rfl⟩ := List.mem_map.mp hv
  show (r.map PV.int).all isLet = true
  rw [List.all_eq_true]
  intro x hx
  obtain ⟨i, hi, rfl⟩ := List.mem_map.mp hx
  have := hm r hr i hi
  simp [isLet]
  omega
theorem addBox_cons (r : List Int) (Q : List (List Int)) (i : Nat) (v : Int) : addBox (r :: Q) (i + 1) v = r :: addBox Q i v := by
  unfold addBox
  by_cases c : i = Q.length
  · rw [if_pos c, if_pos (by simp [c])]; rfl
  · rw [if_neg c, if_neg (by simpa using c)]
    rfl
theorem bl_snoc : ∀ {r s : List Int} {v : Int}, Bl r s → s.length < r.length → (∀ a ∈ r, a < v) → Bl r (s ++ [v])
  | [], s, v, _, l, _ => by simp at l
  | a :: r, [], v, _, _, h => ⟨h a List.mem_cons_self, bl_nil r⟩
  | a :: r, b :: s, v, hb, l, h => ⟨hb.1, bl_snoc hb.2 (by simpa using l) fun x hx => h x (List.mem_cons_of_mem _ hx)⟩
theorem bl_more : ∀ {r s : List Int} {v : Int}, Bl r s → Bl (r ++ [v]) s
  | r, [], v, _ => bl_nil _
  | [], _ :: _, v, h => h.elim
  | a :: r, b :: s, v, h => ⟨h.1, bl_more h.2⟩
theorem tab_box : ∀ {Q : List (List Int)} {i : Nat} {v : Int}, Tab Q → i ≤ Q.length → (∀ r ∈ Q, ∀ a ∈ r, a < v) → (∀ j, i = j + 1 → (rowAt Q i).length < (rowAt Q j).length) → Tab (addBox Q i v)
  | [], i, v, _, hi, _, _ => by
    have : i = 0 := by simpa using hi
    subst this
    exact .one (List.pairwise_singleton _ _) (by simp)
  | r :: Q, 0, v, h, _, hv, _ => by
    have e : addBox (r :: Q) 0 v = (r ++ [v]) :: Q := by
      unfold addBox rowAt
      simp
    rw [e]
    refine tab_cons (srt_app.mpr ⟨h.hd, List.pairwise_singleton _ _, fun a ha b hb => ?_⟩) (by simp) (fun s S e => ?_) h.tl
    · rw [List.mem_singleton.mp hb]
      have := hv r List.mem_cons_self a ha
      omega
    · subst e
      exact bl_more (tab_bl0 h)
  | r :: Q, i + 1, v, h, hi, hv, hc => by
    rw [addBox_cons]
    have hl := hc i rfl
    have ih := tab_box (i := i) (v := v) h.tl (by simpa using hi) (fun s hs => hv s (List.mem_cons_of_mem _ hs)) (fun j e => by
      subst e
      exact hl)
    refine tab_cons h.hd h.ne (fun s S e => ?_) ih
    cases i with
    | zero =>
      cases Q with
      | nil =>
        have e0 : addBox [] 0 v = [[v]] := rfl
        rw [e0] at e
        obtain ⟨rfl, -⟩ := List.cons.inj e
        have := h.ne
        cases r with
        | nil => exact absurd rfl this
        | cons a r => exact ⟨hv _ List.mem_cons_self a List.mem_cons_self, bl_nil _⟩
      | cons q U =>
        have e0 : addBox (q :: U) 0 v = (q ++ [v]) :: U := by unfold addBox rowAt; simp
        rw [e0] at e
        obtain ⟨rfl, -⟩ := List.cons.inj e
        exact bl_snoc (tab_bl0 h) hl fun a ha => hv r List.mem_cons_self a ha
    | succ i =>
      cases Q with
      | nil => simp at hi
      | cons q U =>
        rw [addBox_cons] at e
        obtain ⟨rfl, -⟩ := List.cons.inj e
        exact tab_bl0 h
theorem desc_t : ∀ {T : List (List Int)}, Tab T → ∀ i, (rowAt T (i + 1)).length ≤ (rowAt T i).length := by
  intro T
  induction T with
  | nil => intro _ i; simp [rowAt]
  | cons r T ih =>
    intro h i
    cases i with
    | zero =>
      cases T with
      | nil => simp [rowAt]
      | cons s U => exact (tab_bl0 h).len
    | succ i => exact ih h.tl i
theorem tab_q : ∀ w : List Int, Tab (pairL w).2
  | [] => .nil
  | a :: w => by
    have hi : (bumpL (pairL w).1 a).2 ≤ (pairL w).2.length := by rw [(pairL_len w).1]; exact bump_le _ _
    have tb : Tab (pairL (a :: w)).1 := by rw [pL_pair]; exact tab_pL _
    refine tab_box (tab_q w) hi (q_lt w) fun j e => ?_
    have d := desc_t tb j
    have b := bump_shp (pairL w).1 a
    have e1 : (pairL (a :: w)).1 = (bumpL (pairL w).1 a).1 := rfl
    have b1 := b (j + 1)
    have b0 := b j
    rw [if_pos e.symm] at b1
    rw [if_neg (by omega)] at b0
    have s := shp_at (shp_q w)
    unfold rowAt at *
    rw [e1] at d
    rw [e]
    have s1 := s (j + 1)
    have s0 := s j
    omega
/-- the numbers of a Q -/
theorem addBox_flat {q : List (List Int)} {i : Nat} (v : Int) (hi : i ≤ q.length) : List.Perm (addBox q i v).flatten (v :: q.flatten) := by
  induction q generalizing i with
  | nil =>
    have : i = 0 := by simpa using hi
    subst this
    exact .refl _
  | cons r q ih =>
    cases i with
    | zero =>
      have e : addBox (r :: q) 0 v = (r ++ [v]) :: q := by unfold addBox rowAt; simp
      rw [e, List.flatten_cons, List.flatten_cons, List.append_assoc]
      exact List.perm_middle
    | succ i =>
      rw [addBox_cons, List.flatten_cons, List.flatten_cons]
      exact (List.Perm.append_left r (ih (by simpa using hi))).trans List.perm_middle
theorem flat_q : ∀ w : List Int, List.Perm (pairL w).2.flatten (rgI 1 ((w.length : Int) + 1))
  | [] => .refl _
  | a :: w => by
    have hi : (bumpL (pairL w).1 a).2 ≤ (pairL w).2.length := by rw [(pairL_len w).1]; exact bump_le _ _
    have e : rgI 1 (((a :: w).length : Int) + 1) = rgI 1 ((w.length : Int) + 1) ++ [(w.length : Int) + 1] := by
      unfold rgI
      rw [show ((((a :: w).length : Nat) : Int) + 1 - 1).toNat = w.length + 1 by rw [List.length_cons]; omega, show ((w.length : Int) + 1 - 1).toNat = w.length by omega, List.range_succ, List.map_append]
      congr 1
      simp
      omega
    rw [e]
    exact (addBox_flat _ hi).trans ((List.Perm.cons _ (flat_q w)).trans (List.perm_append_singleton _ _).symm)
theorem rgI_srt (n : Nat) : (rgI 1 ((n : Int) + 1)).Pairwise (· ≤ ·) := by
  unfold rgI
  refine List.pairwise_map.mpr ((List.pairwise_lt_range).imp fun h => by omega)
theorem shp_sum : ∀ w : List Int, (shp (pL w)).sum = w.length := fun w => by
  have e : (shp (pL w)).sum = (pL w).flatten.length := by rw [List.length_flatten]; rfl
  have f : ∀ T : List (List Int), (rd T).length = T.flatten.length := by
    intro T
    induction T with
    | nil => rfl
    | cons r T ih => rw [rd, List.flatten_cons, List.length_append, List.length_append, List.length_reverse, ih]
  rw [e, ← f, (k_rd w).len]
end DL
namespace DL
open PySem L2
theorem shp_ok {T : List (List Int)} (hl : T.length ≤ 900) (S : AH) : d_shape_of [.p (.tup (tabV T))] S = .ok (.p (.tup (nt (shp T)))) S := by
  have hz : (dit (tabV T)).length ≤ 16777216 := by rw [dit_len, tabV_len]; omega
  have e : ∀ S : AH, lcGo ckT (.nm 1) dYes (dApp lenO (dCons (dVar 1) dNil)) [some (.p (.tup (tabV T))), none] (dit (tabV T)) S = .ok (nt (shp T)) S := fun S => by
    rw [lc_map trivial (fun v => match v with
      | .tup xs => .int (xs.length : Int)
      | v => v) (fun x hx => by
      obtain ⟨r, hr, rfl⟩ := List.mem_map.mp hx
      exact ⟨_, rfl, by simp⟩)]
    congr 1
    unfold tabV nt shp
    rw [List.map_map, List.map_map]
    refine List.map_congr_left fun r _ => ?_
    show PV.int ((r.map PV.int).length : Int) = _
    rw [List.length_map]
    rfl
  generalize tabV T = V at *
  simp [d_shape_of, b_shape_of_, ev_kLc hz, wipeD, e]
def ntI (ks : List Nat) : List Int := ks.map fun (k : Nat) => (k : Int)
theorem nt_ntI (ks : List Nat) : nt ks = (ntI ks).map PV.int := by unfold ntI; rw [List.map_map]; rfl
theorem sum_ntI : ∀ ks : List Nat, (ntI ks).sum = (ks.sum : Nat)
  | [] => rfl
  | k :: ks => by
    have := sum_ntI ks
    unfold ntI at this ⊢
    rw [List.map_cons, List.sum_cons, List.sum_cons, this]; omega
theorem ne_nt (ks : List Nat) (S : AH) : neO (.p (.tup (nt ks))) (.p (.tup (nt ks))) S = some (.p (.bl false), S) := by
  rw [nt_ntI]; exact neO_self (n := 1) (fit_tupI _) (by decide)
theorem sum_nt (ks : List Nat) (S : AH) : sumO [.p (.tup (nt ks))] S = some (.p (.int (ks.sum : Nat)), S) := by
  rw [nt_ntI, sumO_tup, sum_ntI]
theorem tabP {w : List Int} (h : Word w) : tabB (tabV (pairL w).1) = true := by
  have k := k_rd w
  rw [pL_pair]
  refine tabB_t (tab_pL w) (fun r hr a ha => h.b a (k.perm.mem_iff.mpr (rd_mem.mpr ⟨r, hr, ha⟩))) ?_
  rw [shp_sum]; exact h.m
theorem isP {w : List Int} (h : Word w) (S : AH) : d_is_tableau [.p (.tup (tabV (pairL w).1))] S = .ok (.p (.bl true)) S := by
  have g := pairL_good w
  have l := pairL_len w
  have hm := h.m
  rw [tab_ok (val_t (by omega) fun r hr => by have := g.1 r hr; omega), tabP h]
/-! ### refused, judged false -/
abbrev Mf (S : AH) : Res DV := .exc "Malformed" [] S
theorem sbM : sub_Malformed "Malformed" = some true := by simp [sub_Malformed]
structure NoTab (v : PV) : Prop where
  t : ∀ S, d_is_tableau [.p v] S = .ok (.p (.bl false)) S
theorem nt_non : NoTab .non := ⟨fun S => by
  have : ∀ S, d_has_rows [.p .non] S = .ok (.p (.bl false)) S := fun S => by simp [d_has_rows, b_has_rows_]
  simp [d_is_tableau, b_is_tableau_, this]⟩
theorem nt_int (i : Int) : NoTab (.int i) := ⟨fun S => by
  have : ∀ S, d_has_rows [.p (.int i)] S = .ok (.p (.bl false)) S := fun S => by simp [d_has_rows, b_has_rows_]
  simp [d_is_tableau, b_is_tableau_, this]⟩
theorem nt_lst (xs : List PV) : NoTab (.lst xs) := ⟨fun S => by
  have : ∀ S, d_has_rows [.p (.lst xs)] S = .ok (.p (.bl false)) S := fun S => by simp [d_has_rows, b_has_rows_]
  simp [d_is_tableau, b_is_tableau_, this]⟩
theorem nt_str (x : Str) : NoTab (.str x) := ⟨fun S => by
  have : ∀ S, d_has_rows [.p (.str x)] S = .ok (.p (.bl false)) S := fun S => by simp [d_has_rows, b_has_rows_]
  simp [d_is_tableau, b_is_tableau_, this]⟩
theorem nt_one1 : NoTab (.tup [.int 1]) := ⟨fun S => by
  have : ∀ S, d_has_rows [.p (.tup [.int 1])] S = .ok (.p (.bl false)) S := fun S => by
    simp [d_has_rows, b_has_rows_]
    rw [for_nm]
    simp [L0_has_rows]
  simp [d_is_tableau, b_is_tableau_, this]⟩
theorem nt_val {vs : List PV} (h : Val vs) (hb : tabB vs = false) : NoTab (.tup vs) := ⟨fun S => by rw [tab_ok h, hb]⟩
/-! the tuples that are none -/
theorem val_app {vs ws : List PV} (h : Val vs) (g : Val ws) (l : vs.length + ws.length ≤ 1000) : Val (vs ++ ws) := ⟨fun v hv => by
  rcases List.mem_append.mp hv with hv | hv
  · exact h.r v hv
  · exact g.r v hv, by rw [List.length_append]; exact l⟩
theorem val_one {xs : List PV} (h : ∀ x ∈ xs, Simple x) (l : xs.length ≤ 1000) : Val [.tup xs] := ⟨fun v hv => by rw [List.mem_singleton.mp hv]; exact .tup _ h l, by simp⟩
theorem chain_end : ∀ {vs : List PV} {b : Nat} {v : PV}, chain b (vs ++ [v]) → 1 ≤ rlen v ∧ rlen v ≤ b
  | [], b, v, h => ⟨h.2.1, h.2.2.1⟩
  | x :: vs, b, v, h => by
    obtain ⟨h1, h2, h3, h4⟩ := h
    obtain ⟨g1, g2⟩ := chain_end h4
    exact ⟨g1, by omega⟩
theorem tabB_hr {vs : List PV} (h : hrB vs = false) : tabB vs = false := by unfold tabB; rw [h]; rfl
theorem bad_e {vs : List PV} : hrB (vs ++ [.tup []]) = false := by
  cases e : hrB (vs ++ [.tup []]) with
  | false => rfl
  | true =>
    have := (chain_end ((hrB_iff _).mp e).1).1
    simp [rlen] at this
theorem bad_13 {vs : List PV} {xs : List PV} (h : 12 < xs.length) : hrB (vs ++ [.tup xs]) = false := by
  cases e : hrB (vs ++ [.tup xs]) with
  | false => rfl
  | true =>
    have := (chain_end ((hrB_iff _).mp e).1).2
    simp only [rlen] at this
    omega
theorem simp_ints (ns : List Int) : ∀ x ∈ ns.map PV.int, Simple x := fun x hx => by
  obtain ⟨i, _, rfl⟩ := List.mem_map.mp hx
  exact .int i
end DL
namespace DL
open PySem L2
/-! ### plain answers stay -/
def Pn : Nat → PV → Prop
  | _, .int _ => True
  | _, .non => True
  | _, .str _ => True
  | n + 1, .tup xs => xs.length ≤ 20000 ∧ ∀ x ∈ xs, Pn n x
  | _, _ => False
theorem pn_int {n : Nat} {i : Int} : Pn n (.int i) := by cases n <;> trivial
theorem pn_non {n : Nat} : Pn n .non := by cases n <;> trivial
theorem pn_str {n : Nat} {x : Str} : Pn n (.str x) := by cases n <;> trivial
theorem pn_ints {n : Nat} {w : List Int} (h : w.length ≤ 20000) : Pn (n + 1) (tupI w) := ⟨by rw [List.length_map]; exact h, fun x hx => by
  obtain ⟨i, _, rfl⟩ := List.mem_map.mp hx
  exact pn_int⟩
theorem isO_str {x : Str} {S : AH} : isO (.p (.str x)) (.p .non) S = some (.p (.bl false), S) := rfl
theorem plain_pn : ∀ {n : Nat} {v : PV}, Pn n v → ∀ k, n < k → ∀ S : AH, d_law_plain k [.p v] S = .ok (.p v) S := by
  intro n
  induction n with
  | zero =>
    intro v h k hk S
    obtain ⟨k, rfl⟩ : ∃ j, k = j + 1 := ⟨k - 1, by omega⟩
    cases v with
    | int i => simp [d_law_plain]
    | non => simp [d_law_plain]
    | str x => simp [d_law_plain, isO_str]
    | _ => exact absurd h (by simp [Pn])
  | succ n ih =>
    intro v h k hk S
    obtain ⟨k, rfl⟩ : ∃ j, k = j + 1 := ⟨k - 1, by omega⟩
    cases v with
    | int i => simp [d_law_plain]
    | non => simp [d_law_plain]
    | str x => simp [d_law_plain, isO_str]
    | tup xs =>
      obtain ⟨hz, hx⟩ := h
      have hz2 : (dit xs).length ≤ 16777216 := by rw [dit_len]; omega
      have q : ∀ (V : DV) (x : Option DV) (S : AH), lcGo ckT (.nm 1) dYes (dCall (d_law_plain k) (dCons (dVar 1) dNil)) [some V, x] (dit xs) S = .ok xs S := fun V x0 S => by
        rw [lc_map trivial id (fun x q => by
          have := ih (hx x q) k (by omega)
          exact ⟨_, rfl, by simp [this]⟩), List.map_id]
      rw [d_law_plain]
      generalize d_law_plain k = F at *
      simp [ev_kLc hz2, wipeD, q]
    | _ => exact absurd h (by simp [Pn])
end DL
namespace DL
open PySem L2
/-! ### heaps, their letters and words -/
structure HeapN (n : Int) (x : List Int) : Prop where
  n1 : 1 ≤ n
  n2 : n ≤ 3
  l : (x.length : Int) = n + 1
  i : ∀ i ∈ x, 0 ≤ i
  s1 : 1 ≤ x.sum
  s2 : x.sum ≤ 8
def eqK (k : Int) : PV → Bool
  | .int i => decide (i = k)
  | _ => false
def SeqV (V : PV) (xs : List PV) : Prop := V = .tup xs ∨ V = .lst xs
theorem filter_count (l : List Int) (k : Int) : ((l.map PV.int).filter (eqK k)).length = l.count k := by
  rw [List.filter_map, List.length_map, List.count, List.countP_eq_length_filter]
  congr 1
theorem count_one {V : PV} {l : List Int} (hV : SeqV V (l.map PV.int)) (hz : l.length ≤ 1000) (n : PV) (k : Int) (S : AH) :
    (dApp lenO (dCons (dVal (dLc (dSeqI (dVar 0)) (.nm 2) (blOf (dBin eqO (dVar 2) (dVar 3))) (dVar 2) [2])) dNil)) [some (.p V), some (.p n), none, some (.p (.int k))] S = .ok (.p (.int (l.count k : Nat))) S := by
  have hz2 : (dit (l.map PV.int)).length ≤ 16777216 := by rw [dit_len, List.length_map]; omega
  have key : ∀ w : DV, lcGo ckT (.nm 2) (blOf (dBin eqO (dVar 2) (dVar 3))) (dVar 2) [some w, some (.p n), none, some (.p (.int k))] (dit (l.map PV.int)) S = .ok ((l.map PV.int).filter (eqK k)) S := fun w => by
    rw [lc_filter trivial (eqK k) id (fun x hx => by
      obtain ⟨i, _, rfl⟩ := List.mem_map.mp hx
      exact ⟨_, rfl, by simp [eqK], fun _ => by simp⟩)]
    simp
  rcases hV with rfl | rfl <;> simp [ev_kLc hz2, wipeD, key, filter_count]
theorem counted_ok {V : PV} {l : List Int} (hV : SeqV V (l.map PV.int)) (hz : l.length ≤ 1000) (n : Nat) (hn : n ≤ 100) (S : AH) : d_counted [.p V, .p (.int (n : Int))] S = .ok (.p (tupI ((List.range (n + 1)).map fun (k : Nat) => ((l.count (k : Int) : Nat) : Int)))) S := by
  have rg : ∀ S : AH, kRng1 [.p (.int ((n : Int) + 1))] S = .ok (rangeI 0 (n + 1), ckT) S := fun S => rg_len (n + 1) (by omega) S
  have hz2 : (rangeI 0 (n + 1)).length ≤ 16777216 := by rw [rangeI_len]; omega
  have co := fun k S => count_one hV hz (.int n) k S
  have key : lcGo ckT (.nm 3) dYes (dApp lenO (dCons (dVal (dLc (dSeqI (dVar 0)) (.nm 2) (blOf (dBin eqO (dVar 2) (dVar 3))) (dVar 2) [2])) dNil)) [some (.p V), some (.p (.int (n : Int))), none, none] (rangeI 0 (n + 1)) S = .ok ((List.range (n + 1)).map fun (k : Nat) => PV.int ((l.count (k : Int) : Nat) : Int)) S :=
    lc_rmap (fun (k : Nat) => .int ((l.count (k : Int) : Nat) : Int)) (fun k hk => by
      show (dApp lenO _) [some (.p V), some (.p (.int (n : Int))), none, some (.p (.int (0 + (k : Int))))] S = _
      rw [co, Int.zero_add])
  simp only [tupI, List.map_map]
  rcases hV with rfl | rfl
  · simp [d_counted, b_counted_, rg, ev_kLc hz2, wipeD]
    rw [key]
    simp [Function.comp_def]
  · simp [d_counted, b_counted_, rg, ev_kLc hz2, wipeD]
    rw [key]
    simp [Function.comp_def]
theorem sum_nn : ∀ {x : List Int}, (∀ i ∈ x, 0 ≤ i) → 0 ≤ x.sum
  | [], _ => Int.le_refl _
  | m :: r, h => by
    have := sum_nn (x := r) fun i hi => h i (List.mem_cons_of_mem _ hi)
    have := h m List.mem_cons_self
    rw [List.sum_cons]
    omega
theorem ix_drop {x : List Int} {a : Nat} {m : Int} {r : List Int} (h : x.drop a = m :: r) (S : AH) : ixO (.p (.tup (x.map PV.int))) (.p (.int (a : Int))) S = some (.p (.int m), S) := by
  have e : x[a]? = some m := by
    have := congrArg (·[0]?) h
    simpa using this
  exact ixO_tup (atI_map _ (atI_nat e))
theorem drop_tl {x : List Int} {a : Nat} {m : Int} {r : List Int} (h : x.drop a = m :: r) : x.drop (a + 1) = r := by
  have := congrArg List.tail h
  simpa using this
theorem ev_augS {o : Op2} {fo fi fe : Sig → AH → Res DV} {δ : Sig} {S S1 S2 S3 : AH} {n : Nat} {k : Int} {xs : List PV} {x v : PV} {y : DV} (h1 : fo δ S = .ok (.c n) S) (h2 : fi δ S = .ok (.p (.int k)) S1) (h3 : S1[n]? = some (.lst xs)) (h4 : atI xs k = some x) (h5 : fe δ S1 = .ok y S2) (h6 : o (.p x) y S2 = some (.p v, S2)) (h7 : setIx (.c n) (.p (.int k)) (.p v) S2 = some S3) : dAugS o fo fi fe δ S = .nx δ S3 := by
  have h3' : litems (.c n) S1 = some xs := litems_c h3
  unfold dAugS
  simp only [h1, h2, h5, out_ok, h3', Option.bind_some, h4, h6, lift_some, h7]
theorem sum_set : ∀ {x : List Int} {k : Nat} {m : Int}, x[k]? = some m → (x.set k (m + 1)).sum = x.sum + 1
  | [], _, _, h => by simp at h
  | a :: r, 0, m, h => by
    simp at h
    subst h
    simp only [List.set_cons_zero, List.sum_cons]
    omega
  | a :: r, k + 1, m, h => by
    have := sum_set (x := r) (k := k) (m := m) (by simpa using h)
    simp only [List.set_cons_succ, List.sum_cons, this]
    omega
theorem heap_loop (n : Nat) (hn : n ≤ 3) (d2 d4 : Option DV) : ∀ (m : Nat) (lo : Int) (x : List Int) (c : Cell) (d5 : Option DV), St2 c → x.length = n + 1 → (∀ i ∈ x, 0 ≤ i) →
    ∃ (x' : List Int) (c' : Cell) (d5' : Option DV), St2 c' ∧ x'.length = n + 1 ∧ (∀ i ∈ x', 0 ≤ i) ∧ x'.sum = x.sum + m ∧ forGo ckT (.nm 5) L0_law_heap (rangeI lo m) [some (.c 0), some (.p (.int (n : Int))), d2, some (.c 1), d4, d5] [c, .lst (x.map PV.int)] = .nx [some (.c 0), some (.p (.int (n : Int))), d2, some (.c 1), d4, d5'] [c', .lst (x'.map PV.int)]
  | 0, lo, x, c, d5, hc, hl, hi => ⟨x, c, d5, hc, hl, hi, by simp, for_nil⟩
  | m + 1, lo, x, c, d5, hc, hl, hi => by
    obtain ⟨v, c1, hc1, hv, t1⟩ := take_ok hc (m := (n : Int) + 1) [.lst (x.map PV.int)] (by omega) (by omega)
    obtain ⟨k, rfl⟩ : ∃ k : Nat, v = (k : Int) := ⟨v.toNat, by omega⟩
    have hk : k < x.length := by omega
    have ex : x[k]? = some x[k] := List.getElem?_eq_getElem hk
    obtain ⟨x', c', d5', r1, r2, r3, r4, r5⟩ := heap_loop n hn d2 d4 m (lo + 1) (x.set k (x[k] + 1)) c1 (some (.p (.int lo))) hc1 (by rw [List.length_set]; exact hl) (fun i q => by
      rcases List.mem_or_eq_of_mem_set q with q | q
      · exact hi i q
      · have := hi x[k] (List.getElem_mem hk)
        omega)
    refine ⟨x', c', d5', r1, r2, r3, by rw [r4, sum_set ex]; omega, ?_⟩
    rw [range_succ, for_nm]
    have st : L0_law_heap ([some (.c 0), some (.p (.int (n : Int))), d2, some (.c 1), d4, d5].set 5 (some (.p (.int lo)))) [c, .lst (x.map PV.int)] = .nx [some (.c 0), some (.p (.int (n : Int))), d2, some (.c 1), d4, some (.p (.int lo))] [c1, .lst ((x.set k (x[k] + 1)).map PV.int)] := by
      unfold L0_law_heap
      refine ev_augS (n := 1) (k := (k : Int)) (xs := x.map PV.int) (x := .int x[k]) (v := .int (x[k] + 1)) (y := .p (.int 1)) (S1 := [c1, .lst (x.map PV.int)]) (S2 := [c1, .lst (x.map PV.int)]) (by simp) (by simp [t1]) rfl (atI_map _ (atI_nat ex)) (by simp) rfl ?_
      rw [setIx_c (n := 1) (xs := x.map PV.int) rfl (by rw [List.length_map]; exact hk), List.map_set]
      rfl
    rw [st, after_nx]
    exact r5
theorem sum_zeros : ∀ k : Nat, (List.replicate k (0 : Int)).sum = 0
  | 0 => rfl
  | k + 1 => by rw [List.replicate_succ, List.sum_cons, sum_zeros k]; rfl
theorem lheap_le {c : Cell} (hc : St2 c) (n : Nat) (n1 : 1 ≤ n) (n2 : n ≤ 3) {most : Int} (o1 : 1 ≤ most) (o2 : most ≤ 8) : ∃ x c', St2 c' ∧ HeapN n x ∧ x.sum ≤ most ∧ d_law_heap [.c 0, .p (.int (n : Int)), .p (.int most)] [c] = .ok (.p (tupI x)) [c'] := by
  obtain ⟨v, c1, hc1, hv, t1⟩ := take_ok hc (m := most) [.lst ((List.replicate (n + 1) (0 : Int)).map PV.int)] (by omega) (by omega)
  obtain ⟨k, hk⟩ : ∃ k : Nat, 1 + v = (k : Int) := ⟨(1 + v).toNat, by omega⟩
  obtain ⟨x, c2, d5, hc2, hl, hi, hs, e⟩ := heap_loop n n2 (some (.p (.int most))) none k 0 (List.replicate (n + 1) 0) c1 none hc1 (by simp) (fun i q => by rw [List.eq_of_mem_replicate q]; exact Int.le_refl 0)
  rw [sum_zeros] at hs
  obtain ⟨y2, z2, rfl⟩ := hc2
  refine ⟨x, _, ⟨y2, z2, rfl⟩, ⟨by omega, by omega, by omega, hi, by omega, by omega⟩, by omega, ?_⟩
  obtain ⟨y0, z0, rfl⟩ := hc
  have rg : ∀ S : AH, kRng1 [.p (.int ((n : Int) + 1))] S = .ok (rangeI 0 (n + 1), ckT) S := fun S => rg_len (n + 1) (by omega) S
  have hz2 : (rangeI 0 (n + 1)).length ≤ 16777216 := by rw [rangeI_len]; omega
  have zr : (List.range (n + 1)).map (fun _ => PV.int 0) = (List.replicate (n + 1) (0 : Int)).map PV.int := by rw [List.map_replicate, List.map_const', List.length_range]
  simp [d_law_heap, b_law_heap_, rg, ev_kLc hz2]
  rw [lc_rmap (fun _ => .int 0) (fun k hk => by simp [wipeD]), zr]
  simp [-List.map_replicate, t1, hk, rg_len k (by omega), e, tupleO_c (n := 1) (S := [.lst [.int y2, .int z2], .lst (x.map PV.int)]) rfl]
abbrev hsV (hs : List (List Int)) : List PV := hs.map tupI
def hw1 (x : List Int) : List Int := (lettersFrom 0 x).reverse.map (· + 1)
def hw (hs : List (List Int)) : List Int := (hs.map hw1).flatten
def tot (hs : List (List Int)) : Int := (hs.map List.sum).sum
theorem hw1_len {n : Int} {x : List Int} (h : HeapN n x) : ((hw1 x).length : Int) = x.sum := by
  unfold hw1
  rw [List.length_map, List.length_reverse]
  exact lf_len h.i
theorem hw_len {n : Int} : ∀ {hs : List (List Int)}, (∀ x ∈ hs, HeapN n x) → ((hw hs).length : Int) = tot hs
  | [], _ => rfl
  | x :: r, h => by
    have h1 := hw1_len (h x List.mem_cons_self)
    have ih := hw_len (hs := r) fun y hy => h y (List.mem_cons_of_mem _ hy)
    have e1 : hw (x :: r) = hw1 x ++ hw r := rfl
    have e2 : tot (x :: r) = x.sum + tot r := rfl
    rw [e1, e2, List.length_append]
    omega
theorem tot_nn {n : Int} : ∀ {hs : List (List Int)}, (∀ x ∈ hs, HeapN n x) → 0 ≤ tot hs
  | [], _ => Int.le_refl _
  | x :: r, h => by
    have ih := tot_nn (hs := r) fun y hy => h y (List.mem_cons_of_mem _ hy)
    have := (h x List.mem_cons_self).s1
    have e2 : tot (x :: r) = x.sum + tot r := rfl
    omega
theorem ll_loop (x : List Int) (S : AH) : ∀ (r : List Int) (a : Nat) (acc : List Int) (d2 d3 : Option DV), x.drop a = r → (∀ i ∈ r, 0 ≤ i) → (acc.length : Int) + r.sum ≤ 900 →
    ∃ d2' d3', forGo ckT (.nm 2) L0_law_letters (rangeI (a : Int) r.length) [some (.p (tupI x)), some (.p (.lst (acc.map PV.int))), d2, d3] S = .nx [some (.p (tupI x)), some (.p (.lst ((acc ++ lettersFrom a r).map PV.int))), d2', d3'] S
  | [], a, acc, d2, d3, _, _, _ => ⟨d2, d3, by simp [lettersFrom, range0]⟩
  | m :: r, a, acc, d2, d3, h, hi, hz => by
    have hm := hi m List.mem_cons_self
    have hr : ∀ i ∈ r, 0 ≤ i := fun i q => hi i (List.mem_cons_of_mem _ q)
    have hs := sum_nn hr
    rw [List.sum_cons] at hz
    obtain ⟨d2', d3', e⟩ := ll_loop x S r (a + 1) (acc ++ List.replicate m.toNat (a : Int)) (some (.p (.int a))) d3 (drop_tl h) hr (by rw [List.length_append, List.length_replicate]; omega)
    refine ⟨d2', d3', ?_⟩
    have i0 := ix_drop h
    have rg : ∀ S : AH, kRng1 [.p (.int m)] S = .ok (rangeI 0 m.toNat, ckT) S := fun S => by
      have := rg_len m.toNat (by omega) S
      rwa [Int.toNat_of_nonneg hm] at this
    have hz2 : (rangeI 0 m.toNat).length ≤ 16777216 := by rw [rangeI_len]; omega
    have rp : (List.range m.toNat).map (fun _ => PV.int (a : Int)) = (List.replicate m.toNat (a : Int)).map PV.int := by rw [List.map_replicate, List.map_const', List.length_range]
    have ad : ∀ S : AH, addO (.p (.lst (acc.map PV.int))) (.p (.lst ((List.replicate m.toNat (a : Int)).map PV.int))) S = some (.p (.lst (acc.map PV.int ++ (List.replicate m.toNat (a : Int)).map PV.int)), S) := fun S => addO_lst (by rw [List.length_map, List.length_map, List.length_replicate]; omega)
    rw [List.length_cons, range_succ, for_nm]
    have st : L0_law_letters ([some (.p (tupI x)), some (.p (.lst (acc.map PV.int))), d2, d3].set 2 (some (.p (.int (a : Int))))) S = .nx [some (.p (tupI x)), some (.p (.lst ((acc ++ List.replicate m.toNat (a : Int)).map PV.int))), some (.p (.int a)), d3] S := by
      simp only [tupI, List.map_append]
      simp [L0_law_letters, i0, rg, ev_kLc hz2, wipeD]
      rw [lc_rmap (fun _ => .int (a : Int)) (fun k hk => by simp), rp]
      simp [-List.map_replicate, ad]
      rw [List.map_replicate]
    rw [st, after_nx, lettersFrom, ← List.append_assoc]
    exact e
theorem ll_ok {x : List Int} (hx : ∀ i ∈ x, 0 ≤ i) (hs : x.sum ≤ 800) (hz : x.length ≤ 1000) (S : AH) : d_law_letters [.p (tupI x)] S = .ok (.p (.lst ((lettersFrom 0 x).map PV.int))) S := by
  obtain ⟨d2', d3', e⟩ := ll_loop x S x 0 [] none none rfl hx (by simp; omega)
  have e : forGo _ _ _ (rangeI 0 x.length) _ _ = _ := e
  simp only [tupI, List.map_nil, List.nil_append] at e ⊢
  simp [d_law_letters, b_law_letters_, rg_len x.length (by omega), e]
theorem lw_loop (V : DV) (S : AH) {n : Int} : ∀ (r : List (List Int)) (acc : List Int) (x a : Option DV), (∀ x ∈ r, HeapN n x) → (acc.length : Int) + tot r ≤ 900 →
    ∃ x' a', forGo ckT (.nm 2) L0_law_heap_word (dit (hsV r)) [some V, some (.p (.lst (acc.map PV.int))), x, a] S = .nx [some V, some (.p (.lst ((acc ++ hw r).map PV.int))), x', a'] S
  | [], acc, x, a, _, _ => ⟨x, a, by
    have : hw [] = [] := rfl
    rw [this, List.append_nil]
    exact for_nil⟩
  | y :: r, acc, x, a, h, hz => by
    have hy := h y List.mem_cons_self
    have hr : ∀ x ∈ r, HeapN n x := fun z q => h z (List.mem_cons_of_mem _ q)
    have e2 : tot (y :: r) = y.sum + tot r := rfl
    have hl := hw1_len hy
    have h0 := tot_nn hr
    have s1 := hy.s1
    have s2 := hy.s2
    obtain ⟨x', a', e⟩ := lw_loop V S r (acc ++ hw1 y) (some (.p (tupI y))) a hr (by rw [List.length_append]; omega)
    refine ⟨x', a', ?_⟩
    have lo := ll_ok hy.i (by omega) (by have := hy.l; have := hy.n2; omega)
    have hz3 : (lettersFrom 0 y).length ≤ 900 := by have := lf_len (a := 0) hy.i; omega
    have hz2 : (dit ((lettersFrom 0 y).map PV.int)).length ≤ 16777216 := by rw [dit_len, List.length_map]; omega
    have ad : ∀ S : AH, addO (.p (.lst (acc.map PV.int))) (.p (.lst ((hw1 y).map PV.int))) S = some (.p (.lst (acc.map PV.int ++ (hw1 y).map PV.int)), S) := fun S => addO_lst (by rw [List.length_map, List.length_map]; omega)
    have key : lcGo ckT (.nm 3) dYes (dBin addO (dVar 3) (dC (.int 1))) [some V, some (.p (.lst (acc.map PV.int))), some (.p (.tup (y.map PV.int))), none] (dit ((lettersFrom 0 y).map PV.int)) S = .ok ((hw1 y).reverse.map PV.int) S := by
      rw [lc_map trivial (fun x => .int (toI x + 1)) (fun v hv => by
        obtain ⟨i, _, rfl⟩ := List.mem_map.mp hv
        exact ⟨_, rfl, by simp [toI]⟩), List.map_map, hw1, ← List.map_reverse, List.reverse_reverse, List.map_map]
      rfl
    have rv : ∀ S : AH, revO (.p (.lst ((hw1 y).reverse.map PV.int))) S = some (.p (.lst ((hw1 y).map PV.int)), S) := fun S => by
      show some (DV.p (.lst ((hw1 y).reverse.map PV.int).reverse), S) = _
      rw [← List.map_reverse, List.reverse_reverse]
    rw [show hsV (y :: r) = tupI y :: hsV r from rfl, dit_cons, for_nm]
    have st : L0_law_heap_word ([some V, some (.p (.lst (acc.map PV.int))), x, a].set 2 (some (.p (tupI y)))) S = .nx [some V, some (.p (.lst ((acc ++ hw1 y).map PV.int))), some (.p (tupI y)), a] S := by
      simp only [tupI, List.map_append] at lo ⊢
      simp [-List.map_reverse, L0_law_heap_word, lo, ev_kLc hz2, wipeD]
      rw [key]
      simp [-List.map_reverse, rv, ad]
    have e3 : acc ++ hw (y :: r) = acc ++ hw1 y ++ hw r := by rw [List.append_assoc]; rfl
    rw [st, after_nx, e3, e]
theorem lw_okN {n : Int} {hs : List (List Int)} (h : ∀ x ∈ hs, HeapN n x) (ht : tot hs ≤ 100) (S : AH) : d_law_heap_word [.p (.tup (hsV hs))] S = .ok (.p (tupI (hw hs))) S := by
  obtain ⟨x', a', e⟩ := lw_loop (.p (.tup (hsV hs))) S hs [] none none h (by simp; omega)
  simp only [tupI, List.map_nil, List.nil_append] at e ⊢
  simp [-List.map_map, d_law_heap_word, b_law_heap_word_, e]
/-- counts of 0 .. n -/
def cts (n : Nat) (l : List Int) : List Int := (List.range (n + 1)).map fun (k : Nat) => ((l.count (k : Int) : Nat) : Int)
theorem lhp_l {l : List Int} {n : Nat} (hn : n ≤ 3) (S : AH) : d_law_heap_of [.p (.lst (l.map PV.int)), .p (.int (n : Int))] S = .ok (.p (tupI (cts n l))) S := by
  have rg : ∀ S : AH, kRng1 [.p (.int ((n : Int) + 1))] S = .ok (rangeI 0 (n + 1), ckT) S := fun S => rg_len (n + 1) (by omega) S
  have hz2 : (rangeI 0 (n + 1)).length ≤ 16777216 := by rw [rangeI_len]; omega
  have km : ∀ (fs : Sig → AH → Res (List DV)) (δ : Sig), kMeth cntM fs δ (.p (.lst (l.map PV.int))) S = (fs δ S).bind (kMeth2 cntM (.p (.lst (l.map PV.int)))) := fun fs δ => ev_kMeth (litems_lst)
  have cn := fun j : Int => cnt_lst (l := l) (k := j) (S := S)
  have e2 : (List.range (n + 1)).map (fun (k : Nat) => PV.int ((l.count (k : Int) : Nat) : Int)) = (cts n l).map PV.int := by
    unfold cts
    rw [List.map_map]; rfl
  simp [d_law_heap_of, b_law_heap_of_, rg, ev_kLc hz2, wipeD]
  rw [lc_rmap (fun (k : Nat) => .int ((l.count (k : Int) : Nat) : Int)) (fun j hj => by simp [cn]), e2]
  simp
/-- counts and letters again -/
theorem lf_cts {n : Nat} : ∀ {l : List Int}, (∀ a ∈ l, 0 ≤ a ∧ a ≤ n) → (lettersFrom 0 (cts n l)).Perm l := fun {l} h => by
  refine List.perm_iff_count.mpr fun k => ?_
  by_cases q : 0 ≤ k ∧ k ≤ n
  · obtain ⟨j, rfl⟩ : ∃ j : Nat, k = (j : Int) := ⟨k.toNat, by omega⟩
    have hj : j < n + 1 := by omega
    have g : (cts n l)[j]? = some ((l.count (j : Int) : Nat) : Int) := by
      unfold cts
      rw [List.getElem?_map, List.getElem?_range hj]
      rfl
    have := lf_count (cts n l) 0 j _ g
    rw [show 0 + j = j by omega] at this
    rw [this]
    omega
  · rw [List.count_eq_zero.mpr fun m => q (h k m), List.count_eq_zero]
    intro m
    have := lf_mem m
    unfold cts at this
    rw [List.length_map, List.length_range] at this
    apply q
    omega
end DL
namespace DL
open PySem L2
/-! ### pair_of_heaps, walked -/
theorem counted_c {k : Nat} {l : List Int} {S : AH} (h : S[k]? = some (.lst (l.map PV.int))) (hz : l.length ≤ 1000) {n : Nat} (hn : n ≤ 3) : d_counted [.c k, .p (.int (n : Int))] S = .ok (.p (tupI (cts n l))) S := by
  have rg : ∀ S : AH, kRng1 [.p (.int ((n : Int) + 1))] S = .ok (rangeI 0 (n + 1), ckT) S := fun S => rg_len (n + 1) (by omega) S
  have hz2 : (rangeI 0 (n + 1)).length ≤ 16777216 := by rw [rangeI_len]; omega
  have hz3 : (dit (l.map PV.int)).length ≤ 16777216 := by rw [dit_len, List.length_map]; omega
  have one : ∀ j : Int, lcGo (fun S' => S'[k]? = some (Cell.lst (l.map PV.int))) (.nm 2) (blOf (dBin eqO (dVar 2) (dVar 3))) (dVar 2) [some (.c k), some (.p (.int (n : Int))), none, some (.p (.int j))] (dit (l.map PV.int)) S = .ok ((l.map PV.int).filter (eqK j)) S := fun j => by
    rw [lc_filter h (eqK j) id (fun x hx => by
      obtain ⟨i, _, rfl⟩ := List.mem_map.mp hx
      exact ⟨_, rfl, by simp [eqK], fun _ => by simp⟩)]
    simp
  have key : lcGo ckT (.nm 3) dYes (dApp lenO (dCons (dVal (dLc (dSeqI (dVar 0)) (.nm 2) (blOf (dBin eqO (dVar 2) (dVar 3))) (dVar 2) [2])) dNil)) [some (.c k), some (.p (.int (n : Int))), none, none] (rangeI 0 (n + 1)) S = .ok ((List.range (n + 1)).map fun (k : Nat) => PV.int ((l.count (k : Int) : Nat) : Int)) S :=
    lc_rmap (fun (k : Nat) => .int ((l.count (k : Int) : Nat) : Int)) (fun j hj => by
      show (dApp lenO _) [some (.c k), some (.p (.int (n : Int))), none, some (.p (.int (0 + (j : Int))))] S = _
      rw [Int.zero_add]
      simp [ev_kSeqI_c h, ev_kLc hz3, wipeD, one, filter_count])
  have e2 : (List.range (n + 1)).map (fun (k : Nat) => PV.int ((l.count (k : Int) : Nat) : Int)) = (cts n l).map PV.int := by
    unfold cts
    rw [List.map_map]; rfl
  rw [e2] at key
  simp [d_counted, b_counted_, rg, ev_kLc hz2, wipeD]
  rw [key]
  simp
theorem counted_l {l : List Int} (hz : l.length ≤ 1000) {n : Nat} (hn : n ≤ 3) (S : AH) : d_counted [.p (.lst (l.map PV.int)), .p (.int (n : Int))] S = .ok (.p (tupI (cts n l))) S := counted_ok (.inr rfl) hz n (by omega) S
/-! the letters of the rows -/
theorem lc2_rows (d0 d1 d2 d3 d4 d5 d6 : Option DV) (ds : Sig) (S : AH) : ∀ (P : List (List Int)), (∀ r ∈ P, r.length ≤ 1000) →
    lc2Go ckT (.nm 5) dYes (dSeqI (dVar 5)) (.nm 6) dYes (dVar 6) [6] (d0 :: d1 :: d2 :: d3 :: d4 :: d5 :: d6 :: ds) (dit (tabV P)) S = .ok (P.flatten.map PV.int) S
  | [], _ => by
    show lc2Go _ _ _ _ _ _ _ _ _ [] S = _
    unfold lc2Go
    rw [if_pos trivial]
    rfl
  | r :: P, hz => by
    have ih := lc2_rows d0 d1 d2 d3 d4 d5 d6 ds S P fun q hq => hz q (List.mem_cons_of_mem _ hq)
    have hr := hz r List.mem_cons_self
    show lc2Go _ _ _ _ _ _ _ _ _ (.p (tupI r) :: dit (tabV P)) S = _
    unfold lc2Go
    rw [if_pos trivial]
    have e1 : (Pat.nm 5).set (.p (tupI r)) (d0 :: d1 :: d2 :: d3 :: d4 :: d5 :: d6 :: ds) = some (d0 :: d1 :: d2 :: d3 :: d4 :: some (.p (tupI r)) :: d6 :: ds) := rfl
    rw [e1]
    have e2 : dSeqI (dVar 5) (d0 :: d1 :: d2 :: d3 :: d4 :: some (.p (tupI r)) :: d6 :: ds) S = .ok (dit (r.map PV.int), ckT) S := by simp
    have e3 : lcGo ckT (.nm 6) dYes (dVar 6) (wipeD (d0 :: d1 :: d2 :: d3 :: d4 :: some (.p (tupI r)) :: d6 :: ds) [6]) (dit (r.map PV.int)) S = .ok (r.map PV.int) S := by
      rw [lc_map trivial (fun x => x) (fun x hx => ⟨_, rfl, by simp [wipeD]⟩)]
      simp
    have hl : (dit (r.map PV.int)).length ≤ 1000 := by rw [dit_len, List.length_map]; exact hr
    simp only [e2, e3, ih, dYes, nox_ok, Res.bind_ok, if_true, hl]
    simp
theorem max_rows {P : List (List Int)} (hl : P.length ≤ 900) (hz : ∀ r ∈ P, r.length ≤ 900) (hf : P.flatten.length ≤ 900) (d1 d2 d3 d4 : Option DV) (ds : Sig) (S : AH) :
    (dApp maxO (dCons (dBin addO (dVal (dLc2 (dSeqI (dVar 0)) (.nm 5) dYes (dSeqI (dVar 5)) (.nm 6) dYes (dVar 6) [5, 6] [6])) (dVal (dLst (dCons (dC (.int 1)) dNil)))) dNil)) (some (.p (.tup (tabV P))) :: d1 :: d2 :: d3 :: d4 :: none :: none :: ds) S = .ok (.p (.int (maxI (P.flatten ++ [1])))) S := by
  have l2 := lc2_rows (some (.p (.tup (tabV P)))) d1 d2 d3 d4 none none ds S P fun r hr => by have := hz r hr; omega
  have l : dLc2 (dSeqI (dVar 0)) (.nm 5) dYes (dSeqI (dVar 5)) (.nm 6) dYes (dVar 6) [5, 6] [6] (some (.p (.tup (tabV P))) :: d1 :: d2 :: d3 :: d4 :: none :: none :: ds) S = .ok (P.flatten.map PV.int) S := by
    have e : dSeqI (dVar 0) (some (.p (.tup (tabV P))) :: d1 :: d2 :: d3 :: d4 :: none :: none :: ds) S = .ok (dit (tabV P), ckT) S := by simp
    have hh : (dit (tabV P)).length ≤ 1000 := by rw [dit_len, tabV_len]; omega
    unfold dLc2
    rw [e]
    simp only [Res.bind_ok, hh, if_true]
    exact l2
  have a : addO (.p (.lst (P.flatten.map PV.int))) (.p (.lst [.int 1])) S = some (.p (.lst ((P.flatten ++ [1]).map PV.int)), S) := by
    rw [addO_lst (by rw [List.length_map]; show P.flatten.length + 1 ≤ 16777216; omega)]
    simp
  have m := max_lst (l := P.flatten ++ [1]) (S := S) (by simp)
  generalize (P.flatten ++ [1]).map PV.int = A at *
  generalize P.flatten.map PV.int = B at *
  simp [l, a, m]
/-! the letters taken -/
theorem pop_loop {R : AH} (d0 d1 d2 d3 d4 d5 d6 d7 d11 : Option DV) (i : Nat) : ∀ (m : Nat) (lo : Int) (T : List (List Int)) (acc : List Int) (d12 d13 : Option DV), Tks i m T → T.length ≤ 900 → (∀ r ∈ T, r.length ≤ 900) → acc.length + m ≤ 900 →
    ∃ e12 e13, forGo ckT (.nm 12) L1_pair_of_heaps (rangeI lo m) [d0, d1, d2, d3, d4, d5, d6, d7, some (.p (.tup (tabV T))), some (.c R.length), some (.p (.int (i : Int))), d11, d12, d13] (R ++ [.lst (acc.map PV.int)]) =
      .nx [d0, d1, d2, d3, d4, d5, d6, d7, some (.p (.tup (tabV (tkN i m T).1))), some (.c R.length), some (.p (.int (i : Int))), d11, e12, e13] (R ++ [.lst ((acc ++ (tkN i m T).2.map (· - 1)).map PV.int)])
  | 0, lo, T, acc, d12, d13, _, _, _, _ => ⟨d12, d13, by simp [tkN]⟩
  | m + 1, lo, T, acc, d12, d13, tk, hl, hz, ha => by
    obtain ⟨hT, hc, tk'⟩ := tk
    obtain ⟨b1, b2⟩ := unb_bd hT hc hl hz
    obtain ⟨e12, e13, ih⟩ := pop_loop (R := R) d0 d1 d2 d3 d4 d5 d6 d7 d11 i m (lo + 1) (unb T i).1 (acc ++ [(unb T i).2 - 1]) (some (.p (.int lo))) (some (.p (.int (unb T i).2))) tk' b1 b2 (by rw [List.length_append]; simp; omega)
    refine ⟨e12, e13, ?_⟩
    have t := taken_ok hT hl hz hc
    have ap : ∀ y : PV, appendM (.c R.length) [.p y] (R ++ [.lst (acc.map PV.int)]) = some (.p .non, R ++ [.lst (acc.map PV.int ++ [y])]) := fun y => append_last (by rw [List.length_map]; omega)
    rw [range_succ, for_nm]
    have one : L1_pair_of_heaps [d0, d1, d2, d3, d4, d5, d6, d7, some (.p (.tup (tabV T))), some (.c R.length), some (.p (.int (i : Int))), d11, some (.p (.int lo)), d13] (R ++ [.lst (acc.map PV.int)]) = .nx [d0, d1, d2, d3, d4, d5, d6, d7, some (.p (.tup (tabV (unb T i).1))), some (.c R.length), some (.p (.int (i : Int))), d11, some (.p (.int lo)), some (.p (.int (unb T i).2))] (R ++ [.lst ((acc ++ [(unb T i).2 - 1]).map PV.int)]) := by
      generalize tabV (unb T i).1 = V1 at *
      generalize tabV T = V at *
      simp [L1_pair_of_heaps, t, asg2, ap]
    show afterTurn (L1_pair_of_heaps [d0, d1, d2, d3, d4, d5, d6, d7, some (.p (.tup (tabV T))), some (.c R.length), some (.p (.int (i : Int))), d11, some (.p (.int lo)), d13] (R ++ [.lst (acc.map PV.int)])) _ = _
    rw [one, after_nx, ih]
    have e : acc ++ [(unb T i).2 - 1] ++ (tkN i m (unb T i).1).2.map (· - 1) = acc ++ (tkN i (m + 1) T).2.map (· - 1) := by
      show _ = acc ++ ((unb T i).2 :: (tkN i m (unb T i).1).2).map (· - 1)
      simp
    rw [e]
    rfl
end DL
namespace DL
open PySem L2
/-- a tableau of letters up to n + 1 -/
structure Gp (n : Nat) (P : List (List Int)) : Prop where
  n1 : 1 ≤ n
  n3 : n ≤ 3
  tab : Tab P
  l : P.length ≤ 12
  z : ∀ r ∈ P, r.length ≤ 12
  s : (shp P).sum ≤ 12
  b : ∀ r ∈ P, ∀ a ∈ r, 1 ≤ a ∧ a ≤ (n : Int) + 1
def rl (P : List (List Int)) (i : Nat) : Nat := (rowAt P i).length
def Fit (P : List (List Int)) (a b : Nat) : Prop := P.length ≤ 2 ∧ rl P 0 + rl P 1 = a + b ∧ rl P 1 ≤ a ∧ rl P 1 ≤ b
instance (P : List (List Int)) (a b : Nat) : Decidable (Fit P a b) := by unfold Fit; infer_instance
def eL (P : List (List Int)) (b : Nat) : List Int := (tkN 0 (rl P 0 - b) P).2 ++ (tkN 1 (rl P 1) (tkN 0 (rl P 0 - b) P).1).2
def qL (P : List (List Int)) (b : Nat) : List Int := rowAt (tkN 1 (rl P 1) (tkN 0 (rl P 0 - b) P).1).1 0
def poH (n : Nat) (P : List (List Int)) (a b : Nat) : Option (List Int × List Int) := if Fit P a b then some (cts n ((eL P b).map (· - 1)), cts n ((qL P b).map (· - 1))) else none
theorem flat_len (P : List (List Int)) : P.flatten.length = (shp P).sum := by rw [List.length_flatten]; rfl
theorem shp_ix {P : List (List Int)} (i : Nat) (hi : i < 2) (S : AH) : ixO (.p (.tup (nt (shp P ++ [0, 0])))) (.p (.int (i : Int))) S = some (.p (.int (rl P i : Nat)), S) := by
  have e : (shp P ++ [0, 0])[i]? = some (rl P i) := by
    unfold rl rowAt
    by_cases h : i < P.length
    · rw [List.getElem?_append_left (by unfold shp; rw [List.length_map]; exact h)]
      unfold shp
      simp [List.getD, h]
    · rw [List.getElem?_append_right (by unfold shp; rw [List.length_map]; omega)]
      have : (P.getD i []).length = 0 := by rw [List.getD_eq_getElem?_getD, List.getElem?_eq_none (by omega)]; rfl
      rw [this]
      unfold shp
      rw [List.length_map]
      have : i - P.length = 0 ∨ i - P.length = 1 := by omega
      rcases this with h | h <;> rw [h] <;> rfl
  refine ixO_tup ?_
  refine atI_at (by omega) ?_
  rw [show ((i : Int)).toNat = i by omega]
  unfold nt
  rw [List.getElem?_map, e]
  rfl
theorem fit_sum {P : List (List Int)} (h : P.length ≤ 2) : (shp P).sum = rl P 0 + rl P 1 := by
  match P, h with
  | [], _ => rfl
  | [p], _ => simp [shp, rl, rowAt]
  | [p, q], _ => simp [shp, rl, rowAt]
theorem poh_ok {n : Nat} {P : List (List Int)} (h : Gp n P) {a b : Nat} (a1 : 1 ≤ a) (a8 : a ≤ 8) (b1 : 1 ≤ b) (b8 : b ≤ 8) (S : AH) :
    d_pair_of_heaps [.p (.tup (tabV P)), .p (.int (a : Int)), .p (.int (b : Int)), .p (.int (n : Int))] S = .ok (.p (match poH n P a b with | none => .non | some (x, y) => .tup [tupI x, tupI y])) S := by
  have n1 := h.n1
  have n3 := h.n3
  have hl : P.length ≤ 900 := by have := h.l; omega
  have hz : ∀ r ∈ P, r.length ≤ 900 := fun r hr => by have := h.z r hr; omega
  have hf : P.flatten.length ≤ 900 := by rw [flat_len]; have := h.s; omega
  refine (dDef_ap rfl).trans ?_
  show gcK S false (b_pair_of_heaps_ [some (.p (.tup (tabV P))), some (.p (.int (a : Int))), some (.p (.int (b : Int))), some (.p (.int (n : Int))), none, none, none, none, none, none, none, none, none, none] S) = _
  have ii := isint_ok
  have q0 : (dIf (dOr (dNot (dTru (dCall d_is_integer (dCons (dVar 3) dNil)))) (dOr (blOf (dBin ltO (dVar 3) (dC (.int 1)))) (blOf (dBin gtO (dVar 3) (dC (.int 3)))))) (dRaise "Malformed") dPass) [some (.p (.tup (tabV P))), some (.p (.int (a : Int))), some (.p (.int (b : Int))), some (.p (.int (n : Int))), none, none, none, none, none, none, none, none, none, none] S = .nx [some (.p (.tup (tabV P))), some (.p (.int (a : Int))), some (.p (.int (b : Int))), some (.p (.int (n : Int))), none, none, none, none, none, none, none, none, none, none] S := by
    have k1 : ¬ (n : Int) < 1 := by omega
    have k2 : ¬ (3 : Int) < (n : Int) := by omega
    have k1' : ¬ n = 0 := by omega
    have k2' : ¬ 3 < n := by omega
    generalize tabV P = V
    simp [ii, k1, k2, k1', k2']
  have one : ∀ (v : Nat) (d4 : Option DV), 1 ≤ v → v ≤ 8 → L0_pair_of_heaps [some (.p (.tup (tabV P))), some (.p (.int (a : Int))), some (.p (.int (b : Int))), some (.p (.int (n : Int))), some (.p (.int (v : Int))), none, none, none, none, none, none, none, none, none] S = .nx [some (.p (.tup (tabV P))), some (.p (.int (a : Int))), some (.p (.int (b : Int))), some (.p (.int (n : Int))), some (.p (.int (v : Int))), none, none, none, none, none, none, none, none, none] S := fun v d4 v1 v8 => by
    have k1 : ¬ (v : Int) < 1 := by omega
    have k2 : ¬ (8 : Int) < (v : Int) := by omega
    have k1' : ¬ v = 0 := by omega
    have k2' : ¬ 8 < v := by omega
    generalize tabV P = V
    simp [L0_pair_of_heaps, ii, k1, k2, k1', k2']
  have q1 : (dFor (dSeqI (dTup (dCons (dVar 1) (dCons (dVar 2) dNil)))) (.nm 4) L0_pair_of_heaps) [some (.p (.tup (tabV P))), some (.p (.int (a : Int))), some (.p (.int (b : Int))), some (.p (.int (n : Int))), none, none, none, none, none, none, none, none, none, none] S = .nx [some (.p (.tup (tabV P))), some (.p (.int (a : Int))), some (.p (.int (b : Int))), some (.p (.int (n : Int))), some (.p (.int (b : Int))), none, none, none, none, none, none, none, none, none] S := by
    rw [ev_for]
    have it : dSeqI (dTup (dCons (dVar 1) (dCons (dVar 2) dNil))) [some (.p (.tup (tabV P))), some (.p (.int (a : Int))), some (.p (.int (b : Int))), some (.p (.int (n : Int))), none, none, none, none, none, none, none, none, none, none] S = .ok ([.p (.int (a : Int)), .p (.int (b : Int))], ckT) S := by simp
    rw [it, out_ok, ev_jFor, for_nm]
    show afterTurn (L0_pair_of_heaps [some (.p (.tup (tabV P))), some (.p (.int (a : Int))), some (.p (.int (b : Int))), some (.p (.int (n : Int))), some (.p (.int (a : Int))), none, none, none, none, none, none, none, none, none] S) _ = _
    rw [one a none a1 a8, after_nx, for_nm]
    show afterTurn (L0_pair_of_heaps [some (.p (.tup (tabV P))), some (.p (.int (a : Int))), some (.p (.int (b : Int))), some (.p (.int (n : Int))), some (.p (.int (b : Int))), none, none, none, none, none, none, none, none, none] S) _ = _
    rw [one b none b1 b8, after_nx, for_nil]
  have it : ∀ S, d_is_tableau [.p (.tup (tabV P))] S = .ok (.p (.bl true)) S := fun S => by
    rw [tab_ok (val_t hl hz) S, tabB_t h.tab (fun r hr x hx => by have := h.b r hr x hx; omega) h.s]
  have mx : maxI (P.flatten ++ [1]) ≤ (n : Int) + 1 := by
    have m := (maxI_mem (P.flatten ++ [1]) (by simp)).1
    rcases List.mem_append.mp m with m | m
    · obtain ⟨r, hr, hx⟩ := List.mem_flatten.mp m
      exact (h.b r hr _ hx).2
    · rw [List.mem_singleton.mp m]; omega
  have q2 : (dIf (dOr (dNot (dTru (dCall d_is_tableau (dCons (dVar 0) dNil)))) (blOf (dBin gtO (dApp maxO (dCons (dBin addO (dVal (dLc2 (dSeqI (dVar 0)) (.nm 5) dYes (dSeqI (dVar 5)) (.nm 6) dYes (dVar 6) [5, 6] [6])) (dVal (dLst (dCons (dC (.int 1)) dNil)))) dNil)) (dBin addO (dVar 3) (dC (.int 1)))))) (dRaise "Malformed") dPass) [some (.p (.tup (tabV P))), some (.p (.int (a : Int))), some (.p (.int (b : Int))), some (.p (.int (n : Int))), some (.p (.int (b : Int))), none, none, none, none, none, none, none, none, none] S = .nx [some (.p (.tup (tabV P))), some (.p (.int (a : Int))), some (.p (.int (b : Int))), some (.p (.int (n : Int))), some (.p (.int (b : Int))), none, none, none, none, none, none, none, none, none] S := by
    have m := max_rows hl hz hf (some (.p (.int (a : Int)))) (some (.p (.int (b : Int)))) (some (.p (.int (n : Int)))) (some (.p (.int (b : Int)))) [none, none, none, none, none, none, none] S
    generalize hM : (dApp maxO (dCons (dBin addO (dVal (dLc2 (dSeqI (dVar 0)) (.nm 5) dYes (dSeqI (dVar 5)) (.nm 6) dYes (dVar 6) [5, 6] [6])) (dVal (dLst (dCons (dC (.int 1)) dNil)))) dNil)) = M at *
    have k : ¬ (n : Int) + 1 < maxI (P.flatten ++ [1]) := by omega
    generalize maxI (P.flatten ++ [1]) = mm at *
    generalize tabV P = V at *
    simp [it, m, k]
  have lnP : ∀ S : AH, lenO [.p (.tup (tabV P))] S = some (.p (.int (P.length : Int)), S) := fun S => by
    show some (DV.p (.int ((tabV P).length : Nat)), S) = _
    rw [tabV_len]
  have q3 : (dSet 7 (dBin addO (dCall d_shape_of (dCons (dVar 0) dNil)) (dTup (dCons (dC (.int 0)) (dCons (dC (.int 0)) dNil))))) [some (.p (.tup (tabV P))), some (.p (.int (a : Int))), some (.p (.int (b : Int))), some (.p (.int (n : Int))), some (.p (.int (b : Int))), none, none, none, none, none, none, none, none, none] S = .nx [some (.p (.tup (tabV P))), some (.p (.int (a : Int))), some (.p (.int (b : Int))), some (.p (.int (n : Int))), some (.p (.int (b : Int))), none, none, some (.p (.tup (nt (shp P ++ [0, 0])))), none, none, none, none, none, none] S := by
    have sh := shp_ok hl
    have ad : ∀ S : AH, addO (.p (.tup (nt (shp P)))) (.p (.tup [.int 0, .int 0])) S = some (.p (.tup (nt (shp P ++ [0, 0]))), S) := fun S => by
      rw [addO_tup (by rw [nt_len]; unfold shp; rw [List.length_map]; simp; omega), nt_app]
      rfl
    generalize nt (shp P ++ [0, 0]) = Z at *
    generalize nt (shp P) = Y at *
    generalize tabV P = V at *
    simp [sh, ad]
  have i0 := shp_ix (P := P) 0 (by omega)
  have i1 := shp_ix (P := P) 1 (by omega)
  rw [show ((0 : Nat) : Int) = 0 from rfl] at i0
  rw [show ((1 : Nat) : Int) = 1 from rfl] at i1
  have sm : ∀ S : AH, sumO [.p (.tup (nt (shp P ++ [0, 0])))] S = some (.p (.int (((shp P).sum : Nat) : Int)), S) := fun S => by
    rw [sum_nt]
    simp
  have q4 : (dIf (dOr (blOf (dBin gtO (dApp lenO (dCons (dVar 0) dNil)) (dC (.int 2)))) (dOr (blOf (dBin neO (dApp sumO (dCons (dVar 7) dNil)) (dBin addO (dVar 1) (dVar 2)))) (dOr (blOf (dBin gtO (dBin ixO (dVar 7) (dC (.int 1))) (dVar 1))) (blOf (dBin gtO (dBin ixO (dVar 7) (dC (.int 1))) (dVar 2)))))) (dRet (dC .non)) dPass) [some (.p (.tup (tabV P))), some (.p (.int (a : Int))), some (.p (.int (b : Int))), some (.p (.int (n : Int))), some (.p (.int (b : Int))), none, none, some (.p (.tup (nt (shp P ++ [0, 0])))), none, none, none, none, none, none] S = if Fit P a b then .nx [some (.p (.tup (tabV P))), some (.p (.int (a : Int))), some (.p (.int (b : Int))), some (.p (.int (n : Int))), some (.p (.int (b : Int))), none, none, some (.p (.tup (nt (shp P ++ [0, 0])))), none, none, none, none, none, none] S else .rt (.p .non) S := by
    by_cases c1 : 2 < P.length
    · have c1' : (2 : Int) < (P.length : Int) := by omega
      rw [if_neg (by unfold Fit; omega)]
      generalize nt (shp P ++ [0, 0]) = Z at *
      generalize tabV P = V at *
      simp [lnP, c1, c1']
    · have c1' : ¬ (2 : Int) < (P.length : Int) := by omega
      have fs := fit_sum (P := P) (by omega)
      by_cases c2 : (shp P).sum = a + b
      · have c2' : (((shp P).sum : Nat) : Int) = (a : Int) + (b : Int) := by omega
        by_cases c3 : a < rl P 1
        · have c3' : (a : Int) < ((rl P 1 : Nat) : Int) := by omega
          rw [if_neg (by unfold Fit; omega)]
          generalize nt (shp P ++ [0, 0]) = Z at *
          generalize tabV P = V at *
          simp [lnP, c1, c1', sm, c2', i1, c3, c3']
        · have c3' : ¬ (a : Int) < ((rl P 1 : Nat) : Int) := by omega
          by_cases c4 : b < rl P 1
          · have c4' : (b : Int) < ((rl P 1 : Nat) : Int) := by omega
            rw [if_neg (by unfold Fit; omega)]
            generalize nt (shp P ++ [0, 0]) = Z at *
            generalize tabV P = V at *
            simp [lnP, c1, c1', sm, c2', i1, c3, c3', c4, c4']
          · have c4' : ¬ (b : Int) < ((rl P 1 : Nat) : Int) := by omega
            rw [if_pos (by unfold Fit; omega)]
            generalize nt (shp P ++ [0, 0]) = Z at *
            generalize tabV P = V at *
            simp [lnP, c1, c1', sm, c2', i1, c3, c3', c4, c4']
      · have c2' : ¬ (((shp P).sum : Nat) : Int) = (a : Int) + (b : Int) := by omega
        rw [if_neg (by unfold Fit; omega)]
        generalize nt (shp P ++ [0, 0]) = Z at *
        generalize tabV P = V at *
        simp [lnP, c1, c1', sm, c2']
  have body : b_pair_of_heaps_ [some (.p (.tup (tabV P))), some (.p (.int (a : Int))), some (.p (.int (b : Int))), some (.p (.int (n : Int))), none, none, none, none, none, none, none, none, none, none] S = if Fit P a b then .rt (.p (.tup [tupI (cts n ((eL P b).map (· - 1))), tupI (cts n ((qL P b).map (· - 1)))])) (S ++ [.lst (((eL P b).map (· - 1)).map PV.int)]) else .rt (.p .non) S := by
    unfold b_pair_of_heaps_
    refine sq_step q0 (sq_step q1 (sq_step q2 (sq_step q3 ?_)))
    rw [ev_seq, q4]
    by_cases f : Fit P a b
    · rw [if_pos f, if_pos f, seq_nx]
      obtain ⟨f1, f2, f3, f4⟩ := f
      obtain ⟨T1, e0, e1, q, g0, g1, g2, g3, g4, g5, g6, g7, g8⟩ := two_back h.tab f1 b1 f2 f3 f4
      have g0' : tkN 0 (rl P 0 - b) P = (T1, e0) := g0
      have g1' : tkN 1 (rl P 1) T1 = ([q], e1) := g1
      have eE : eL P b = e0 ++ e1 := by unfold eL; rw [g0', g1']
      have eQ : qL P b = q := by unfold qL; rw [g0', g1']; rfl
      have le0 : e0.length ≤ a := by rw [← g3, List.length_append]; omega
      refine sq_step (δ1 := [some (.p (.tup (tabV P))), some (.p (.int (a : Int))), some (.p (.int (b : Int))), some (.p (.int (n : Int))), some (.p (.int (b : Int))), none, none, some (.p (.tup (nt (shp P ++ [0, 0])))), some (.p (.tup (tabV P))), none, none, none, none, none] ) (S1 := S) (by
        generalize nt (shp P ++ [0, 0]) = Z
        generalize tabV P = V
        simp) ?_
      refine sq_step (δ1 := [some (.p (.tup (tabV P))), some (.p (.int (a : Int))), some (.p (.int (b : Int))), some (.p (.int (n : Int))), some (.p (.int (b : Int))), none, none, some (.p (.tup (nt (shp P ++ [0, 0])))), some (.p (.tup (tabV P))), some (.c S.length), none, none, none, none] ) (S1 := S ++ [.lst []]) (by
        generalize nt (shp P ++ [0, 0]) = Z
        generalize tabV P = V
        simp) ?_
      have sub : ((rl P 0 : Nat) : Int) - (b : Int) = ((rl P 0 - b : Nat) : Int) := by omega
      have itm : dSeqI (dTup (dCons (dTup (dCons (dC (.int 0)) (dCons (dBin subO (dBin ixO (dVar 7) (dC (.int 0))) (dVar 2)) dNil))) (dCons (dTup (dCons (dC (.int 1)) (dCons (dBin ixO (dVar 7) (dC (.int 1))) dNil))) dNil))) [some (.p (.tup (tabV P))), some (.p (.int (a : Int))), some (.p (.int (b : Int))), some (.p (.int (n : Int))), some (.p (.int (b : Int))), none, none, some (.p (.tup (nt (shp P ++ [0, 0])))), some (.p (.tup (tabV P))), some (.c S.length), none, none, none, none] (S ++ [.lst []]) = .ok ([.p (.tup [.int 0, .int ((rl P 0 - b : Nat) : Int)]), .p (.tup [.int 1, .int ((rl P 1 : Nat) : Int)])], ckT) (S ++ [.lst []]) := by
        generalize nt (shp P ++ [0, 0]) = Z at *
        generalize tabV P = V
        simp [i0, i1, sub]
      have hm0 : ([] : List Int).length + (rl P 0 - b) ≤ 900 := by rw [List.length_nil]; omega
      obtain ⟨x0, y0, r0⟩ := pop_loop (R := S) (some (.p (.tup (tabV P)))) (some (.p (.int (a : Int)))) (some (.p (.int (b : Int)))) (some (.p (.int (n : Int)))) (some (.p (.int (b : Int)))) none none (some (.p (.tup (nt (shp P ++ [0, 0]))))) (some (.p (.int ((rl P 0 - b : Nat) : Int)))) 0 (rl P 0 - b) 0 P [] none none g7 hl hz hm0
      have bd : ∀ (i m : Nat) (T : List (List Int)), Tks i m T → T.length ≤ 900 → (∀ r ∈ T, r.length ≤ 900) → (tkN i m T).1.length ≤ 900 ∧ ∀ r ∈ (tkN i m T).1, r.length ≤ 900 := by
        intro i m
        induction m with
        | zero => intro T _ h1 h2; exact ⟨h1, h2⟩
        | succ m ih =>
          intro T tk h1 h2
          obtain ⟨hT, hc, tk'⟩ := tk
          obtain ⟨b1, b2⟩ := unb_bd hT hc h1 h2
          exact ih _ tk' b1 b2
      obtain ⟨bd1, bd2⟩ := bd 0 (rl P 0 - b) P g7 hl hz
      rw [g0'] at bd1 bd2 r0
      obtain ⟨x1, y1, r1⟩ := pop_loop (R := S) (some (.p (.tup (tabV P)))) (some (.p (.int (a : Int)))) (some (.p (.int (b : Int)))) (some (.p (.int (n : Int)))) (some (.p (.int (b : Int)))) none none (some (.p (.tup (nt (shp P ++ [0, 0]))))) (some (.p (.int ((rl P 1 : Nat) : Int)))) 1 (rl P 1) 0 T1 ([] ++ e0.map (· - 1)) x0 y0 g8 bd1 bd2 (by simp; omega)
      rw [g1'] at r1
      have q7 : (dFor (dSeqI (dTup (dCons (dTup (dCons (dC (.int 0)) (dCons (dBin subO (dBin ixO (dVar 7) (dC (.int 0))) (dVar 2)) dNil))) (dCons (dTup (dCons (dC (.int 1)) (dCons (dBin ixO (dVar 7) (dC (.int 1))) dNil))) dNil)))) (.tp [(.nm 10), (.nm 11)]) L2_pair_of_heaps) [some (.p (.tup (tabV P))), some (.p (.int (a : Int))), some (.p (.int (b : Int))), some (.p (.int (n : Int))), some (.p (.int (b : Int))), none, none, some (.p (.tup (nt (shp P ++ [0, 0])))), some (.p (.tup (tabV P))), some (.c S.length), none, none, none, none] (S ++ [.lst []]) = .nx [some (.p (.tup (tabV P))), some (.p (.int (a : Int))), some (.p (.int (b : Int))), some (.p (.int (n : Int))), some (.p (.int (b : Int))), none, none, some (.p (.tup (nt (shp P ++ [0, 0])))), some (.p (.tup (tabV [q]))), some (.c S.length), some (.p (.int 1)), some (.p (.int ((rl P 1 : Nat) : Int))), x1, y1] (S ++ [.lst (([] ++ e0.map (· - 1) ++ e1.map (· - 1)).map PV.int)]) := by
        rw [ev_for, itm, out_ok, ev_jFor, for_cons rfl]
        have t0 : L2_pair_of_heaps [some (.p (.tup (tabV P))), some (.p (.int (a : Int))), some (.p (.int (b : Int))), some (.p (.int (n : Int))), some (.p (.int (b : Int))), none, none, some (.p (.tup (nt (shp P ++ [0, 0])))), some (.p (.tup (tabV P))), some (.c S.length), some (.p (.int 0)), some (.p (.int ((rl P 0 - b : Nat) : Int))), none, none] (S ++ [.lst []]) = .nx [some (.p (.tup (tabV P))), some (.p (.int (a : Int))), some (.p (.int (b : Int))), some (.p (.int (n : Int))), some (.p (.int (b : Int))), none, none, some (.p (.tup (nt (shp P ++ [0, 0])))), some (.p (.tup (tabV T1))), some (.c S.length), some (.p (.int 0)), some (.p (.int ((rl P 0 - b : Nat) : Int))), x0, y0] (S ++ [.lst (([] ++ e0.map (· - 1)).map PV.int)]) := by
          have rg := rg_len (rl P 0 - b) (by omega)
          unfold L2_pair_of_heaps
          rw [ev_for]
          have it0 : dRng1 (dCons (dVar 11) dNil) [some (.p (.tup (tabV P))), some (.p (.int (a : Int))), some (.p (.int (b : Int))), some (.p (.int (n : Int))), some (.p (.int (b : Int))), none, none, some (.p (.tup (nt (shp P ++ [0, 0])))), some (.p (.tup (tabV P))), some (.c S.length), some (.p (.int 0)), some (.p (.int ((rl P 0 - b : Nat) : Int))), none, none] (S ++ [.lst []]) = .ok (rangeI 0 (rl P 0 - b), ckT) (S ++ [.lst []]) := by
            generalize nt (shp P ++ [0, 0]) = Z at *
            generalize tabV P = V
            generalize rl P 0 - b = m0 at *
            simp [rg]
          rw [it0, out_ok, ev_jFor]
          exact r0
        show afterTurn (L2_pair_of_heaps [some (.p (.tup (tabV P))), some (.p (.int (a : Int))), some (.p (.int (b : Int))), some (.p (.int (n : Int))), some (.p (.int (b : Int))), none, none, some (.p (.tup (nt (shp P ++ [0, 0])))), some (.p (.tup (tabV P))), some (.c S.length), some (.p (.int 0)), some (.p (.int ((rl P 0 - b : Nat) : Int))), none, none] (S ++ [.lst []])) _ = _
        rw [t0, after_nx, for_cons rfl]
        have t1 : L2_pair_of_heaps [some (.p (.tup (tabV P))), some (.p (.int (a : Int))), some (.p (.int (b : Int))), some (.p (.int (n : Int))), some (.p (.int (b : Int))), none, none, some (.p (.tup (nt (shp P ++ [0, 0])))), some (.p (.tup (tabV T1))), some (.c S.length), some (.p (.int 1)), some (.p (.int ((rl P 1 : Nat) : Int))), x0, y0] (S ++ [.lst (([] ++ e0.map (· - 1)).map PV.int)]) = .nx [some (.p (.tup (tabV P))), some (.p (.int (a : Int))), some (.p (.int (b : Int))), some (.p (.int (n : Int))), some (.p (.int (b : Int))), none, none, some (.p (.tup (nt (shp P ++ [0, 0])))), some (.p (.tup (tabV [q]))), some (.c S.length), some (.p (.int 1)), some (.p (.int ((rl P 1 : Nat) : Int))), x1, y1] (S ++ [.lst (([] ++ e0.map (· - 1) ++ e1.map (· - 1)).map PV.int)]) := by
          have rg := rg_len (rl P 1) (by omega)
          unfold L2_pair_of_heaps
          rw [ev_for]
          have it1 : dRng1 (dCons (dVar 11) dNil) [some (.p (.tup (tabV P))), some (.p (.int (a : Int))), some (.p (.int (b : Int))), some (.p (.int (n : Int))), some (.p (.int (b : Int))), none, none, some (.p (.tup (nt (shp P ++ [0, 0])))), some (.p (.tup (tabV T1))), some (.c S.length), some (.p (.int 1)), some (.p (.int ((rl P 1 : Nat) : Int))), x0, y0] (S ++ [.lst (([] ++ e0.map (· - 1)).map PV.int)]) = .ok (rangeI 0 (rl P 1), ckT) (S ++ [.lst (([] ++ e0.map (· - 1)).map PV.int)]) := by
            generalize nt (shp P ++ [0, 0]) = Z at *
            generalize tabV P = V
            generalize tabV T1 = V1
            generalize rl P 1 = m0 at *
            simp [rg]
          rw [it1, out_ok, ev_jFor]
          exact r1
        show afterTurn (L2_pair_of_heaps [some (.p (.tup (tabV P))), some (.p (.int (a : Int))), some (.p (.int (b : Int))), some (.p (.int (n : Int))), some (.p (.int (b : Int))), none, none, some (.p (.tup (nt (shp P ++ [0, 0])))), some (.p (.tup (tabV T1))), some (.c S.length), some (.p (.int 1)), some (.p (.int ((rl P 1 : Nat) : Int))), x0, y0] (S ++ [.lst (([] ++ e0.map (· - 1)).map PV.int)])) _ = _
        rw [t1, after_nx, for_nil]
      refine sq_step q7 ?_
      have el : ([] ++ e0.map (· - 1) ++ e1.map (· - 1) : List Int) = (eL P b).map (· - 1) := by rw [eE]; simp
      rw [el, eQ]
      have lE : ((eL P b).map (· - 1)).length ≤ 1000 := by rw [List.length_map, eE, g3]; omega
      have c1 := counted_c (k := S.length) (l := (eL P b).map (· - 1)) (S := S ++ [.lst (((eL P b).map (· - 1)).map PV.int)]) (by simp) lE n3
      have c2 := counted_l (l := q.map (· - 1)) (by rw [List.length_map]; omega) n3 (S ++ [.lst (((eL P b).map (· - 1)).map PV.int)])
      have ir : ∀ S : AH, ixO (.p (.tup (tabV [q]))) (.p (.int 0)) S = some (.p (tupI q), S) := fun S => ixO_tup (atI_at (by decide) rfl)
      have hz2 : (dit (q.map PV.int)).length ≤ 16777216 := by rw [dit_len, List.length_map]; omega
      have lc : ∀ (δ : Sig) (S : AH), (∀ x, (δ.set 6 x)[6]? = some x) → lcGo ckT (.nm 6) dYes (dBin subO (dVar 6) (dC (.int 1))) δ (dit (q.map PV.int)) S = .ok ((q.map (· - 1)).map PV.int) S := fun δ S hδ => by
        rw [lc_map trivial (fun x => .int (toI x - 1)) (fun v hv => by
          obtain ⟨i, _, rfl⟩ := List.mem_map.mp hv
          exact ⟨_, rfl, by simp [toI, hδ]⟩), List.map_map, List.map_map]
        rfl
      generalize hE : (eL P b).map (· - 1) = E at *
      have lcx := lc [some (.p (.tup (tabV P))), some (.p (.int (a : Int))), some (.p (.int (b : Int))), some (.p (.int (n : Int))), some (.p (.int (b : Int))), none, none, some (.p (.tup (nt (shp P ++ [0, 0])))), some (.p (.tup (tabV [q]))), some (.c S.length), some (.p (.int 1)), some (.p (.int ((rl P 1 : Nat) : Int))), x1, y1] (S ++ [.lst (E.map PV.int)]) (fun x => rfl)
      generalize (q.map (· - 1)).map PV.int = Q2 at *
      generalize tupI (cts n E) = R1 at *
      generalize tupI (cts n (q.map (· - 1))) = R2 at *
      generalize nt (shp P ++ [0, 0]) = Z at *
      generalize tabV P = V at *
      generalize tabV [q] = V2 at *
      generalize rl P 1 = m0 at *
      simp [-List.map_map, c1, c2, ir, ev_kLc hz2, wipeD, lcx]
    · rw [if_neg f, if_neg f]
      rfl
  rw [body]
  unfold poH
  by_cases f : Fit P a b
  · rw [if_pos f, if_pos f]
    simp
  · rw [if_neg f, if_neg f, gc_rt (by simp)]
    simp
end DL
namespace DL
open PySem L2
/-! ### pairs of heaps with one tableau, plain -/
theorem sperm {r s : List Int} (hr : Srt r) (hs : Srt s) (p : r.Perm s) : r = s :=
  p.eq_of_pairwise (fun a b _ _ h1 h2 => Int.le_antisymm h1 h2) hr hs
theorem hw1_dsc (x : List Int) : Dsc (hw1 x) := by
  unfold hw1 Dsc
  rw [List.pairwise_map, List.pairwise_reverse]
  exact (lf_sorted x 0).imp fun {a b} h => by omega
theorem hw1_cts {n : Nat} {e : List Int} (hd : Dsc e) (hb : ∀ a ∈ e, 1 ≤ a ∧ a ≤ (n : Int) + 1) : hw1 (cts n (e.map (· - 1))) = e := by
  have p := lf_cts (n := n) (l := e.map (· - 1)) fun a ha => by
    obtain ⟨b, hb', rfl⟩ := List.mem_map.mp ha
    have := hb b hb'
    omega
  have s : Srt (e.map (· - 1)).reverse := by
    unfold Srt
    rw [List.pairwise_reverse, List.pairwise_map]
    exact hd.imp fun {a b} h => by omega
  have q := sperm (lf_sorted _ 0) s (p.trans (List.reverse_perm _).symm)
  unfold hw1
  rw [q, List.reverse_reverse, List.map_map]
  have : ((fun x => x + 1) ∘ fun x : Int => x - 1) = id := by funext x; simp
  rw [this, List.map_id]
theorem hw1_dn (x : List Int) : (hw1 x).map (· - 1) = (lettersFrom 0 x).reverse := by
  unfold hw1
  rw [List.map_map]
  have : ((fun x => x - 1) ∘ fun x : Int => x + 1) = id := by funext x; simp
  rw [this, List.map_id]
theorem cts_of {n : Nat} {x l : List Int} (h : HeapN n x) (p : l.Perm (lettersFrom 0 x)) : cts n l = x := by
  have := lf_counts h.i p
  have hl := h.l
  unfold cts
  rw [show n + 1 = x.length by omega]
  exact this
theorem cts_hw1 {n : Nat} {x : List Int} (h : HeapN n x) : cts n ((hw1 x).map (· - 1)) = x := cts_of h (by rw [hw1_dn]; exact List.reverse_perm _)
theorem hw1_b {n : Nat} {x : List Int} (h : HeapN n x) : ∀ a ∈ hw1 x, 1 ≤ a ∧ a ≤ (n : Int) + 1 := fun a ha => by
  unfold hw1 at ha
  obtain ⟨b, hb, rfl⟩ := List.mem_map.mp ha
  have := lf_mem (List.mem_reverse.mp hb)
  have := h.l
  omega
theorem cts_heap {n : Nat} (n1 : 1 ≤ n) (n3 : n ≤ 3) {e : List Int} (hb : ∀ a ∈ e, 1 ≤ a ∧ a ≤ (n : Int) + 1) (l1 : 1 ≤ e.length) (l8 : e.length ≤ 8) : HeapN n (cts n (e.map (· - 1))) ∧ (cts n (e.map (· - 1))).sum = e.length := by
  have p := lf_cts (n := n) (l := e.map (· - 1)) fun a ha => by
    obtain ⟨b, hb', rfl⟩ := List.mem_map.mp ha
    have := hb b hb'
    omega
  have nn : ∀ i ∈ cts n (e.map (· - 1)), 0 ≤ i := fun i hi => by
    unfold cts at hi
    obtain ⟨k, _, rfl⟩ := List.mem_map.mp hi
    omega
  have ln := lf_len (a := 0) nn
  rw [p.length_eq, List.length_map] at ln
  have lc : (cts n (e.map (· - 1))).length = n + 1 := by unfold cts; rw [List.length_map, List.length_range]
  exact ⟨⟨by omega, by omega, by omega, nn, by omega, by omega⟩, by omega⟩
theorem mem_rd {a : Int} : ∀ {T : List (List Int)}, a ∈ rd T → ∃ r ∈ T, a ∈ r
  | [], h => by simp [rd] at h
  | r :: T, h => by
    simp only [rd, List.mem_append, List.mem_reverse] at h
    rcases h with h | h
    · exact ⟨r, List.mem_cons_self, h⟩
    · obtain ⟨q, h1, h2⟩ := mem_rd h
      exact ⟨q, List.mem_cons_of_mem _ h1, h2⟩
theorem rd_flat : ∀ T : List (List Int), (rd T).Perm T.flatten
  | [] => List.Perm.refl _
  | r :: T => by
    simp only [rd, List.flatten_cons]
    exact (List.reverse_perm r).append (rd_flat T)
theorem pL_flat (w : List Int) : w.Perm (pL w).flatten := (k_rd w).perm.trans (rd_flat _)
theorem hw_two (x y : List Int) : hw [x, y] = hw1 x ++ hw1 y := by unfold hw; simp
theorem hw1_n {n : Nat} {x : List Int} (h : HeapN n x) : ((hw1 x).length : Int) = x.sum := hw1_len h
theorem poh_in {n : Nat} {P : List (List Int)} {a b : Nat} (b1 : 1 ≤ b) {x y : List Int} (hx : HeapN n x) (hy : HeapN n y) (sx : x.sum = a) (sy : y.sum = b) (e : pL (hw [x, y]) = P) : poH n P a b = some (x, y) := by
  rw [hw_two] at e
  subst e
  have lx := hw1_n hx
  have ly := hw1_n hy
  have lx' : (hw1 x).length = a := by omega
  have ly' : (hw1 y).length = b := by omega
  obtain ⟨t1, -, t2, t3, t4, T1, t5, t6⟩ := two_in (hw1_dsc x) (hw1_dsc y) (by intro h; rw [h] at ly'; simp at ly'; omega)
  rw [ly'] at t5 t6 t4 t2
  rw [lx'] at t2 t3
  have f : Fit (pL (hw1 x ++ hw1 y)) a b := ⟨t1, t2, t3, t4⟩
  have eE : eL (pL (hw1 x ++ hw1 y)) b = hw1 x := by
    unfold eL rl
    rw [t5, t6]
    exact List.take_append_drop _ _
  have eQ : qL (pL (hw1 x ++ hw1 y)) b = (hw1 y).reverse := by
    unfold qL rl
    rw [t5, t6]
    rfl
  unfold poH
  rw [if_pos f, eE, eQ, cts_hw1 hx, cts_of hy (by rw [List.map_reverse, hw1_dn, List.reverse_reverse])]
theorem poh_out {n : Nat} {P : List (List Int)} (h : Gp n P) {a b : Nat} (a1 : 1 ≤ a) (a8 : a ≤ 8) (b1 : 1 ≤ b) (b8 : b ≤ 8) {x y : List Int} (e : poH n P a b = some (x, y)) : HeapN n x ∧ HeapN n y ∧ x.sum = a ∧ y.sum = b ∧ pL (hw [x, y]) = P := by
  unfold poH at e
  by_cases f : Fit P a b
  · rw [if_pos f] at e
    obtain ⟨f1, f2, f3, f4⟩ := f
    obtain ⟨T1, e0, e1, q, g0, g1, g2, g3, g4, g5, g6, -, -⟩ := two_back h.tab f1 b1 f2 f3 f4
    have g0' : tkN 0 (rl P 0 - b) P = (T1, e0) := g0
    have g1' : tkN 1 (rl P 1) T1 = ([q], e1) := g1
    have eE : eL P b = e0 ++ e1 := by unfold eL; rw [g0', g1']
    have eQ : qL P b = q := by unfold qL; rw [g0', g1']; rfl
    rw [eE, eQ] at e
    obtain ⟨rfl, rfl⟩ := Prod.mk.inj (Option.some.inj e)
    have bb : ∀ c ∈ (e0 ++ e1) ++ q.reverse, 1 ≤ c ∧ c ≤ (n : Int) + 1 := fun c hc => by
      have m := (pL_flat _).mem_iff.mp hc
      rw [g6] at m
      obtain ⟨r, hr, hx⟩ := List.mem_flatten.mp m
      exact h.b r hr c hx
    have bE : ∀ c ∈ e0 ++ e1, 1 ≤ c ∧ c ≤ (n : Int) + 1 := fun c hc => bb c (List.mem_append_left _ hc)
    have bQ : ∀ c ∈ q, 1 ≤ c ∧ c ≤ (n : Int) + 1 := fun c hc => bb c (List.mem_append_right _ (List.mem_reverse.mpr hc))
    obtain ⟨h1, s1⟩ := cts_heap h.n1 h.n3 bE (by omega) (by omega)
    obtain ⟨h2, s2⟩ := cts_heap h.n1 h.n3 bQ (by omega) (by omega)
    have cq : cts n (q.map (· - 1)) = cts n (q.reverse.map (· - 1)) := by
      unfold cts
      refine List.map_congr_left fun k _ => ?_
      rw [List.map_reverse, List.count_reverse]
    have dq : Dsc q.reverse := srt_rev g4
    refine ⟨h1, h2, by omega, by omega, ?_⟩
    rw [hw_two, hw1_cts g2 bE, cq, hw1_cts dq fun c hc => bQ c (List.mem_reverse.mp hc), g6]
  · rw [if_neg f] at e; cases e
/-! all heaps of a size -/
def hdsN (size : Int) : Nat → List (List Int)
  | 0 => [[]]
  | k + 1 => (hdsN size k).flatMap fun h => (List.range (size - h.sum + 1).toNat).map fun (c : Nat) => h ++ [(c : Int)]
def allH (size : Int) (n : Nat) : List (List Int) := (hdsN size n).map fun h => h ++ [size - h.sum]
theorem hds_mem {size : Int} (h0 : 0 ≤ size) : ∀ (n : Nat) (h : List Int), h ∈ hdsN size n ↔ h.length = n ∧ (∀ c ∈ h, 0 ≤ c) ∧ h.sum ≤ size
  | 0, h => by
    simp only [hdsN, List.mem_singleton]
    constructor
    · rintro rfl; exact ⟨rfl, by simp, by simpa using h0⟩
    · rintro ⟨h1, -, -⟩; exact List.length_eq_zero_iff.mp h1
  | n + 1, h => by
    simp only [hdsN, List.mem_flatMap, List.mem_map, List.mem_range]
    constructor
    · rintro ⟨g, hg, c, hc, rfl⟩
      obtain ⟨g1, g2, g3⟩ := (hds_mem h0 n g).mp hg
      refine ⟨by simp [g1], fun d hd => ?_, by rw [List.sum_append]; simp; omega⟩
      rcases List.mem_append.mp hd with hd | hd
      · exact g2 d hd
      · rw [List.mem_singleton.mp hd]; omega
    · rintro ⟨h1, h2, h3⟩
      obtain ⟨g, c, rfl⟩ : ∃ g c, h = g ++ [c] := by
        rcases List.eq_nil_or_concat h with w | ⟨g, c, w⟩
        · rw [w] at h1; simp at h1
        · exact ⟨g, c, by rw [w, List.concat_eq_append]⟩
      have c0 := h2 c (by simp)
      rw [List.sum_append] at h3
      simp at h3 h1
      refine ⟨g, (hds_mem h0 n g).mpr ⟨h1, fun d hd => h2 d (List.mem_append_left _ hd), by omega⟩, c.toNat, by omega, by rw [show ((c.toNat : Nat) : Int) = c by omega]⟩
theorem hds_nodup (size : Int) : ∀ n : Nat, (hdsN size n).Nodup
  | 0 => by simp [hdsN]
  | n + 1 => by
    unfold hdsN
    rw [List.nodup_iff_pairwise_ne, List.pairwise_flatMap]
    refine ⟨fun h _ => ?_, (hds_nodup size n).imp fun {g h} ne x hx y hy e => ?_⟩
    · rw [List.pairwise_map]
      refine List.nodup_range.imp fun {a b} ne e => ne ?_
      have := List.append_cancel_left e
      have := (List.cons.inj this).1
      omega
    · obtain ⟨c, _, rfl⟩ := List.mem_map.mp hx
      obtain ⟨d, _, rfl⟩ := List.mem_map.mp hy
      exact ne (List.append_inj' e rfl).1
theorem allH_mem {size : Int} (h0 : 0 ≤ size) {n : Nat} {x : List Int} : x ∈ allH size n ↔ x.length = n + 1 ∧ (∀ c ∈ x, 0 ≤ c) ∧ x.sum = size := by
  unfold allH
  simp only [List.mem_map]
  constructor
  · rintro ⟨h, hh, rfl⟩
    obtain ⟨g1, g2, g3⟩ := (hds_mem h0 n h).mp hh
    refine ⟨by simp [g1], fun d hd => ?_, by rw [List.sum_append]; simp; omega⟩
    rcases List.mem_append.mp hd with hd | hd
    · exact g2 d hd
    · rw [List.mem_singleton.mp hd]; omega
  · rintro ⟨h1, h2, h3⟩
    obtain ⟨g, c, rfl⟩ : ∃ g c, x = g ++ [c] := by
      rcases List.eq_nil_or_concat x with w | ⟨g, c, w⟩
      · rw [w] at h1; simp at h1
      · exact ⟨g, c, by rw [w, List.concat_eq_append]⟩
    have c0 := h2 c (by simp)
    rw [List.sum_append] at h3
    simp at h3 h1
    exact ⟨g, (hds_mem h0 n g).mpr ⟨h1, fun d hd => h2 d (List.mem_append_left _ hd), by omega⟩, by rw [show size - g.sum = c by omega]⟩
theorem allH_nodup (size : Int) (n : Nat) : (allH size n).Nodup := by
  unfold allH
  rw [List.nodup_iff_pairwise_ne, List.pairwise_map]
  exact (hds_nodup size n).imp fun {g h} ne => fun e => ne (List.append_inj' e rfl).1
theorem filter_one {α : Type} [DecidableEq α] {p : α → Bool} {x0 : α} : ∀ {l : List α}, l.Nodup → x0 ∈ l → (∀ x ∈ l, p x = true ↔ x = x0) → l.filter p = [x0]
  | [], _, h, _ => by cases h
  | a :: l, nd, hm, hp => by
    obtain ⟨n1, n2⟩ := List.nodup_cons.mp nd
    by_cases e : a = x0
    · subst e
      have pa : p a = true := (hp a List.mem_cons_self).mpr rfl
      rw [List.filter_cons, if_pos pa]
      have : l.filter p = [] := List.filter_eq_nil_iff.mpr fun x hx px => by
        have := (hp x (List.mem_cons_of_mem _ hx)).mp px
        rw [this] at hx
        exact n1 hx
      rw [this]
    · have pa : ¬ p a = true := fun h => e ((hp a List.mem_cons_self).mp h)
      rw [List.filter_cons, if_neg pa]
      exact filter_one n2 (by rcases List.mem_cons.mp hm with h | h; exact absurd h.symm e; exact h) fun x hx => hp x (List.mem_cons_of_mem _ hx)
/-! what the law walks through -/
def yOf (n : Nat) (P : List (List Int)) (x : List Int) : List Int := (List.range (n + 1)).map fun (k : Nat) => (cts n (P.flatten.map (· - 1))).getD k 0 - x.getD k 0
def okX (n : Nat) (P : List (List Int)) (x : List Int) : Bool := decide (∀ c ∈ yOf n P x, 0 ≤ c) && decide (pL (hw [x, yOf n P x]) = P)
theorem yOf_len (n : Nat) (P : List (List Int)) (x : List Int) : (yOf n P x).length = n + 1 := by unfold yOf; rw [List.length_map, List.length_range]
theorem getD_ext {a b : List Int} (l : a.length = b.length) (h : ∀ k, k < a.length → a.getD k 0 = b.getD k 0) : a = b := List.ext_getElem l fun i h1 h2 => by
  have := h i h1
  rw [List.getD_eq_getElem?_getD, List.getD_eq_getElem?_getD, List.getElem?_eq_getElem h1, List.getElem?_eq_getElem h2] at this
  exact this
theorem cts_at {n : Nat} {l : List Int} {k : Nat} (h : k < n + 1) : (cts n l).getD k 0 = ((l.count (k : Int) : Nat) : Int) := by
  unfold cts
  rw [List.getD_eq_getElem?_getD, List.getElem?_map, List.getElem?_range h]
  rfl
theorem y_of {n : Nat} {P : List (List Int)} {x y : List Int} (hx : HeapN n x) (hy : HeapN n y) (e : pL (hw [x, y]) = P) : yOf n P x = y := by
  have ly := hy.l
  refine getD_ext (by rw [yOf_len]; omega) fun k hk => ?_
  rw [yOf_len] at hk
  unfold yOf
  rw [List.getD_eq_getElem?_getD, List.getElem?_map, List.getElem?_range hk]
  show (cts n (P.flatten.map (· - 1))).getD k 0 - x.getD k 0 = y.getD k 0
  have p := (pL_flat (hw [x, y])).map (· - 1)
  rw [e, hw_two, List.map_append] at p
  have hx' := cts_at (n := n) (l := (hw1 x).map (· - 1)) hk
  have hy' := cts_at (n := n) (l := (hw1 y).map (· - 1)) hk
  rw [cts_hw1 hx] at hx'
  rw [cts_hw1 hy] at hy'
  rw [cts_at hk, ← p.count_eq, List.count_append, hx', hy']
  omega
theorem found_ok {n : Nat} {P : List (List Int)} (h : Gp n P) {a b : Nat} (a1 : 1 ≤ a) (a8 : a ≤ 8) (b1 : 1 ≤ b) (b8 : b ≤ 8) (hs : (shp P).sum = a + b) :
    ((allH (a : Int) n).filter (okX n P)).map (fun x => (x, yOf n P x)) = match poH n P a b with | none => [] | some (x, y) => [(x, y)] := by
  have sumc : ∀ x : List Int, x.length = n + 1 → (yOf n P x).sum = (cts n (P.flatten.map (· - 1))).sum - x.sum := fun x hl => by
    have gen : ∀ (m : Nat) (u v : List Int), u.length = m → v.length = m → ((List.range m).map fun (k : Nat) => u.getD k 0 - v.getD k 0).sum = u.sum - v.sum := by
      intro m
      induction m with
      | zero => intro u v hu hv; rw [List.length_eq_zero_iff.mp hu, List.length_eq_zero_iff.mp hv]; rfl
      | succ m ih =>
        intro u v hu hv
        match u, v, hu, hv with
        | c :: u, d :: v, hu, hv =>
          rw [List.range_succ_eq_map, List.map_cons, List.map_map, List.sum_cons, List.sum_cons, List.sum_cons]
          have := ih u v (by simpa using hu) (by simpa using hv)
          have e : ((fun (k : Nat) => (c :: u).getD k 0 - (d :: v).getD k 0) ∘ Nat.succ) = fun (k : Nat) => u.getD k 0 - v.getD k 0 := by funext k; simp
          rw [e, this]
          simp
          omega
    exact gen (n + 1) _ _ (by unfold cts; rw [List.length_map, List.length_range]) hl
  have sumP : (cts n (P.flatten.map (· - 1))).sum = (a : Int) + b := by
    have bb : ∀ c ∈ P.flatten, 1 ≤ c ∧ c ≤ (n : Int) + 1 := fun c hc => by
      obtain ⟨r, hr, hx⟩ := List.mem_flatten.mp hc
      exact h.b r hr c hx
    have p := lf_cts (n := n) (l := P.flatten.map (· - 1)) fun c hc => by
      obtain ⟨d, hd, rfl⟩ := List.mem_map.mp hc
      have := bb d hd
      omega
    have nn : ∀ i ∈ cts n (P.flatten.map (· - 1)), 0 ≤ i := fun i hi => by
      unfold cts at hi
      obtain ⟨k, _, rfl⟩ := List.mem_map.mp hi
      omega
    have ln := lf_len (a := 0) nn
    rw [p.length_eq, List.length_map, flat_len, hs] at ln
    omega
  have heap : ∀ {x : List Int} {s : Nat}, x.length = n + 1 → (∀ c ∈ x, 0 ≤ c) → x.sum = s → 1 ≤ s → s ≤ 8 → HeapN n x := fun {x s} l nn e s1 s8 => by
    have := h.n1; have := h.n3
    exact ⟨by omega, by omega, by omega, nn, by omega, by omega⟩
  have fwd : ∀ x ∈ allH (a : Int) n, okX n P x = true → poH n P a b = some (x, yOf n P x) := fun x hx ok => by
    obtain ⟨g1, g2, g3⟩ := (allH_mem (by omega)).mp hx
    unfold okX at ok
    simp only [Bool.and_eq_true, decide_eq_true_eq] at ok
    have sy := sumc x g1
    rw [sumP, g3] at sy
    exact poh_in b1 (heap g1 g2 g3 a1 a8) (heap (yOf_len n P x) ok.1 (by rw [sy]; omega : (yOf n P x).sum = (b : Int)) b1 b8) g3 (by omega) ok.2
  cases e : poH n P a b with
  | none =>
    have : (allH (a : Int) n).filter (okX n P) = [] := List.filter_eq_nil_iff.mpr fun x hx ok => by
      have := fwd x hx ok
      rw [e] at this; cases this
    rw [this]; rfl
  | some xy =>
    obtain ⟨x0, y0⟩ := xy
    obtain ⟨hx, hy, sx, sy, ep⟩ := poh_out h a1 a8 b1 b8 e
    have yy := y_of hx hy ep
    have : (allH (a : Int) n).filter (okX n P) = [x0] := filter_one (allH_nodup _ n) ((allH_mem (by omega)).mpr ⟨by have := hx.l; omega, hx.i, sx⟩) fun x hm => by
      constructor
      · intro ok
        have := fwd x hm ok
        rw [e] at this
        exact (Prod.mk.inj (Option.some.inj this)).1.symm
      · rintro rfl
        unfold okX
        rw [yy]
        simp [ep]
        exact hy.i
    rw [this]
    show [(x0, yOf n P x0)] = [(x0, y0)]
    rw [yy]
end DL
namespace DL
open PySem L2
/-! ### the law's own walk through all heaps -/
def rowD (r : List Int) : PyData := .tuple (r.map PyData.int)
theorem eqv_rowD (a b : List Int) : PyData.eqv (rowD a) (rowD b) = decide (a = b) := by unfold rowD; rw [PyData.eqv]; exact eqvAll_ints a b
theorem eqvAll_tab : ∀ A B : List (List Int), PyData.eqvAll (A.map rowD) (B.map rowD) = decide (A = B)
  | [], [] => by simp [PyData.eqvAll]
  | [], b :: B => by simp [PyData.eqvAll]
  | a :: A, [] => by simp [PyData.eqvAll]
  | a :: A, b :: B => by
    rw [List.map_cons, List.map_cons, PyData.eqvAll, eqvAll_tab A B, eqv_rowD]
    by_cases h : a = b
    · by_cases h2 : A = B <;> simp [h, h2]
    · simp [h]
theorem datas_tab : ∀ A : List (List Int), PV.datas (tabV A) = some (A.map rowD)
  | [] => by simp [tabV, PV.datas]
  | a :: A => by
    have := datas_tab A
    unfold tabV at this ⊢
    rw [List.map_cons]
    simp [PV.datas, PV.data, datas_ints, this, rowD]
theorem fit_tab (T : List (List Int)) : (PV.tup (tabV T)).fit 2 := fun x hx => by
  obtain ⟨r, hr, rfl⟩ := List.mem_map.mp hx
  exact fit_ints r
theorem eq_tabs (A B : List (List Int)) (S : AH) : eqO (.p (.tup (tabV A))) (.p (.tup (tabV B))) S = some (.p (.bl (decide (A = B))), S) := by
  have sh : ∀ T : List (List Int), SeqAt.shaped (.tuple (T.map rowD)) = true := fun T => by
    obtain ⟨d, h1, h2⟩ := fit_shaped (fit_tab T) (by decide)
    have : PV.data (.tup (tabV T)) = some (.tuple (T.map rowD)) := by simp [PV.data, datas_tab]
    rw [this] at h1
    cases h1
    exact h2
  have e : PyData.eqv (.tuple (A.map rowD)) (.tuple (B.map rowD)) = decide (A = B) := by rw [PyData.eqv]; exact eqvAll_tab A B
  unfold eqO dataOf
  simp only [PV.data, datas_tab, Option.map_some, eqDat, sh, and_self, if_true, e]
theorem content_loop (V N : Option DV) (S : AH) : ∀ (P : List (List Int)) (acc : List Int) (d3 d4 : Option DV), (∀ r ∈ P, r.length ≤ 900) → acc.length + P.flatten.length ≤ 900 →
    ∃ e3 e4, forGo ckT (.nm 3) L0_law_content (dit (tabV P)) [V, N, some (.p (.lst (acc.map PV.int))), d3, d4] S = .nx [V, N, some (.p (.lst ((acc ++ P.flatten.map (· - 1)).map PV.int))), e3, e4] S
  | [], acc, d3, d4, _, _ => ⟨d3, d4, by show forGo _ _ _ [] _ _ = _; rw [for_nil]; simp⟩
  | r :: P, acc, d3, d4, hz, ha => by
    have hr := hz r List.mem_cons_self
    rw [List.flatten_cons, List.length_append] at ha
    obtain ⟨e3, e4, ih⟩ := content_loop V N S P (acc ++ r.map (· - 1)) (some (.p (tupI r))) d4 (fun q hq => hz q (List.mem_cons_of_mem _ hq)) (by rw [List.length_append, List.length_map]; omega)
    refine ⟨e3, e4, ?_⟩
    have hz2 : (dit (r.map PV.int)).length ≤ 16777216 := by rw [dit_len, List.length_map]; omega
    have lc : lcGo ckT (.nm 4) dYes (dBin subO (dVar 4) (dC (.int 1))) [V, N, some (.p (.lst (acc.map PV.int))), some (.p (tupI r)), none] (dit (r.map PV.int)) S = .ok ((r.map (· - 1)).map PV.int) S := by
      rw [lc_map trivial (fun x => .int (toI x - 1)) (fun v hv => by
        obtain ⟨i, _, rfl⟩ := List.mem_map.mp hv
        exact ⟨_, rfl, by simp [toI]⟩), List.map_map, List.map_map]
      rfl
    have ad : ∀ S : AH, addO (.p (.lst (acc.map PV.int))) (.p (.lst ((r.map (· - 1)).map PV.int))) S = some (.p (.lst ((acc ++ r.map (· - 1)).map PV.int)), S) := fun S => by
      rw [addO_lst (by rw [List.length_map, List.length_map, List.length_map]; omega), ← List.map_append]
    show forGo _ _ _ (.p (tupI r) :: dit (tabV P)) _ _ = _
    rw [for_nm]
    have one : L0_law_content [V, N, some (.p (.lst (acc.map PV.int))), some (.p (tupI r)), d4] S = .nx [V, N, some (.p (.lst ((acc ++ r.map (· - 1)).map PV.int))), some (.p (tupI r)), d4] S := by
      generalize (acc ++ r.map (· - 1)).map PV.int = A2 at *
      generalize (r.map (· - 1)).map PV.int = B at *
      generalize acc.map PV.int = A at *
      simp [L0_law_content, ev_kLc hz2, wipeD, lc, ad]
    show afterTurn (L0_law_content [V, N, some (.p (.lst (acc.map PV.int))), some (.p (tupI r)), d4] S) _ = _
    have e : acc ++ r.map (· - 1) ++ P.flatten.map (· - 1) = acc ++ (r :: P).flatten.map (· - 1) := by simp
    rw [one, after_nx, ih, e]
theorem content_ok {P : List (List Int)} (hz : ∀ r ∈ P, r.length ≤ 900) (hf : P.flatten.length ≤ 900) {n : Nat} (hn : n ≤ 3) (S : AH) : d_law_content [.p (.tup (tabV P)), .p (.int (n : Int))] S = .ok (.p (tupI (cts n (P.flatten.map (· - 1))))) S := by
  obtain ⟨e3, e4, l⟩ := content_loop (some (.p (.tup (tabV P)))) (some (.p (.int (n : Int)))) S P [] none none hz (by simpa using hf)
  rw [List.nil_append, List.map_nil] at l
  have hp := lhp_l (l := P.flatten.map (· - 1)) hn S
  generalize (P.flatten.map (· - 1)).map PV.int = A at *
  generalize tupI (cts n (P.flatten.map (· - 1))) = B at *
  simp [d_law_content, b_law_content_, l, hp]
/-! all heaps -/
theorem all_inner (size : Nat) (h8 : size ≤ 8) (N F K : Option DV) (S : AH) : ∀ (hs acc : List (List Int)) (d5 d6 : Option DV), (∀ h ∈ hs, h.length ≤ 3 ∧ (∀ c ∈ h, 0 ≤ c) ∧ h.sum ≤ size) → acc.length + 9 * hs.length ≤ 10000 →
    ∃ e5, forGo ckT (.nm 5) L0_law_all_heaps (dit (tabV hs)) [some (.p (.int (size : Int))), N, F, K, some (.p (.lst (tabV acc))), d5, d6] S = .nx [some (.p (.int (size : Int))), N, F, K, some (.p (.lst (tabV (acc ++ hs.flatMap fun h => (List.range ((size : Int) - h.sum + 1).toNat).map fun (c : Nat) => h ++ [(c : Int)])))), e5, d6] S
  | [], acc, d5, d6, _, _ => ⟨d5, by show forGo _ _ _ [] _ _ = _; rw [for_nil]; simp⟩
  | h :: hs, acc, d5, d6, hh, ha => by
    rw [List.length_cons] at ha
    obtain ⟨g1, g2, g3⟩ := hh h List.mem_cons_self
    have s0 := sum_nn g2
    obtain ⟨m, hm⟩ : ∃ m : Nat, (size : Int) - h.sum + 1 = (m : Int) := ⟨((size : Int) - h.sum + 1).toNat, by omega⟩
    have m9 : m ≤ 9 := by omega
    obtain ⟨e5, ih⟩ := all_inner size h8 N F K S hs (acc ++ (List.range m).map fun (c : Nat) => h ++ [(c : Int)]) (some (.p (tupI h))) d6 (fun q hq => hh q (List.mem_cons_of_mem _ hq)) (by rw [List.length_append, List.length_map, List.length_range]; omega)
    refine ⟨e5, ?_⟩
    have su : ∀ S : AH, sumO [.p (tupI h)] S = some (.p (.int h.sum), S) := fun S => sumO_tup
    have rg := rg_len m (by omega)
    have hz2 : (rangeI 0 m).length ≤ 16777216 := by rw [rangeI_len]; omega
    have lc : lcGo ckT (.nm 6) dYes (dBin addO (dVar 5) (dTup (dCons (dVar 6) dNil))) [some (.p (.int (size : Int))), N, F, K, some (.p (.lst (tabV acc))), some (.p (tupI h)), none] (rangeI 0 m) S = .ok (tabV ((List.range m).map fun (c : Nat) => h ++ [(c : Int)])) S := by
      rw [lc_rmap (fun (c : Nat) => tupI (h ++ [(c : Int)])) (fun k hk => by
        have ad : addO (.p (tupI h)) (.p (.tup [.int (0 + (k : Int))])) S = some (.p (tupI (h ++ [(k : Int)])), S) := by
          rw [show addO (.p (tupI h)) (.p (.tup [.int (0 + (k : Int))])) S = _ from addO_tup (by rw [List.length_map]; simp; omega), Int.zero_add]
          simp
        generalize tupI (h ++ [(k : Int)]) = R2 at *
        generalize tupI h = R at *
        simp only [Int.zero_add] at ad ⊢
        simp [ad])]
      unfold tabV
      rw [List.map_map]
      rfl
    have ad : ∀ S : AH, addO (.p (.lst (tabV acc))) (.p (.lst (tabV ((List.range m).map fun (c : Nat) => h ++ [(c : Int)])))) S = some (.p (.lst (tabV (acc ++ (List.range m).map fun (c : Nat) => h ++ [(c : Int)]))), S) := fun S => by
      rw [addO_lst (by rw [tabV_len, tabV_len, List.length_map, List.length_range]; omega)]
      unfold tabV
      rw [List.map_append]
    show forGo _ _ _ (.p (tupI h) :: dit (tabV hs)) _ _ = _
    rw [for_nm]
    have one : L0_law_all_heaps [some (.p (.int (size : Int))), N, F, K, some (.p (.lst (tabV acc))), some (.p (tupI h)), d6] S = .nx [some (.p (.int (size : Int))), N, F, K, some (.p (.lst (tabV (acc ++ (List.range m).map fun (c : Nat) => h ++ [(c : Int)])))), some (.p (tupI h)), d6] S := by
      generalize tabV (acc ++ (List.range m).map fun (c : Nat) => h ++ [(c : Int)]) = A2 at *
      generalize tabV ((List.range m).map fun (c : Nat) => h ++ [(c : Int)]) = B at *
      generalize tabV acc = A at *
      generalize tupI h = R at *
      simp [L0_law_all_heaps, su, hm, rg, ev_kLc hz2, wipeD, lc, ad]
    show afterTurn (L0_law_all_heaps [some (.p (.int (size : Int))), N, F, K, some (.p (.lst (tabV acc))), some (.p (tupI h)), d6] S) _ = _
    rw [one, after_nx, ih, List.flatMap_cons, hm]
    simp [List.append_assoc]
theorem hds_len (size : Nat) (h8 : size ≤ 8) : ∀ n : Nat, (hdsN (size : Int) n).length ≤ 9 ^ n
  | 0 => by simp [hdsN]
  | n + 1 => by
    have ih := hds_len size h8 n
    have gen : ∀ hs : List (List Int), (∀ h ∈ hs, ∀ c ∈ h, 0 ≤ c) → (hs.flatMap fun h => (List.range ((size : Int) - h.sum + 1).toNat).map fun (c : Nat) => h ++ [(c : Int)]).length ≤ 9 * hs.length := by
      intro hs
      induction hs with
      | nil => intro _; simp
      | cons h hs ih =>
        intro hh
        have := ih fun q hq => hh q (List.mem_cons_of_mem _ hq)
        have := sum_nn (hh h List.mem_cons_self)
        rw [List.flatMap_cons, List.length_append, List.length_map, List.length_range, List.length_cons]
        omega
    have := gen (hdsN (size : Int) n) fun h hh => ((hds_mem (by omega) n h).mp hh).2.1
    show ((hdsN (size : Int) n).flatMap _).length ≤ _
    rw [Nat.pow_succ]
    omega
theorem all_outer (size : Nat) (h8 : size ≤ 8) (N : Option DV) (S : AH) : ∀ (m : Nat) (lo : Int) (j : Nat) (d3 d4 d5 d6 : Option DV), j + m ≤ 3 →
    ∃ e3 e4 e5, forGo ckT (.nm 3) L1_law_all_heaps (rangeI lo m) [some (.p (.int (size : Int))), N, some (.p (.lst (tabV (hdsN (size : Int) j)))), d3, d4, d5, d6] S = .nx [some (.p (.int (size : Int))), N, some (.p (.lst (tabV (hdsN (size : Int) (j + m))))), e3, e4, e5, d6] S
  | 0, lo, j, d3, d4, d5, d6, _ => ⟨d3, d4, d5, for_nil⟩
  | m + 1, lo, j, d3, d4, d5, d6, hj => by
    have hb : (hdsN (size : Int) j).length ≤ 81 := by
      have := hds_len size h8 j
      have : j = 0 ∨ j = 1 ∨ j = 2 := by omega
      rcases this with rfl | rfl | rfl <;> omega
    obtain ⟨x5, l⟩ := all_inner size h8 N (some (.p (.lst (tabV (hdsN (size : Int) j))))) (some (.p (.int lo))) S (hdsN (size : Int) j) [] d5 d6 (fun h hh => by
      obtain ⟨a, b, c⟩ := (hds_mem (by omega) j h).mp hh
      exact ⟨by omega, b, c⟩) (by simp; omega)
    obtain ⟨e3, e4, e5, ih⟩ := all_outer size h8 N S m (lo + 1) (j + 1) (some (.p (.int lo))) (some (.p (.lst (tabV (hdsN (size : Int) (j + 1)))))) x5 d6 (by omega)
    refine ⟨e3, e4, e5, ?_⟩
    rw [range_succ, for_nm]
    have one : L1_law_all_heaps [some (.p (.int (size : Int))), N, some (.p (.lst (tabV (hdsN (size : Int) j)))), some (.p (.int lo)), d4, d5, d6] S = .nx [some (.p (.int (size : Int))), N, some (.p (.lst (tabV (hdsN (size : Int) (j + 1))))), some (.p (.int lo)), some (.p (.lst (tabV (hdsN (size : Int) (j + 1))))), x5, d6] S := by
      have l : forGo ckT (.nm 5) L0_law_all_heaps (dit (tabV (hdsN (size : Int) j))) [some (.p (.int (size : Int))), N, some (.p (.lst (tabV (hdsN (size : Int) j)))), some (.p (.int lo)), some (.p (.lst [])), d5, d6] S = .nx [some (.p (.int (size : Int))), N, some (.p (.lst (tabV (hdsN (size : Int) j)))), some (.p (.int lo)), some (.p (.lst (tabV (hdsN (size : Int) (j + 1))))), x5, d6] S := l
      generalize tabV (hdsN (size : Int) (j + 1)) = B at *
      generalize tabV (hdsN (size : Int) j) = A at *
      simp [L1_law_all_heaps, l]
    show afterTurn (L1_law_all_heaps [some (.p (.int (size : Int))), N, some (.p (.lst (tabV (hdsN (size : Int) j)))), some (.p (.int lo)), d4, d5, d6] S) _ = _
    rw [one, after_nx, ih, show j + 1 + m = j + (m + 1) by omega]
theorem all_ok (size : Nat) (h8 : size ≤ 8) {n : Nat} (n3 : n ≤ 3) (S : AH) : d_law_all_heaps [.p (.int (size : Int)), .p (.int (n : Int))] S = .ok (.p (.lst (tabV (allH (size : Int) n)))) S := by
  obtain ⟨e3, e4, e5, l⟩ := all_outer size h8 (some (.p (.int (n : Int)))) S n 0 0 none none none none (by omega)
  rw [Nat.zero_add] at l
  have l : forGo ckT (.nm 3) L1_law_all_heaps (rangeI 0 n) [some (.p (.int (size : Int))), some (.p (.int (n : Int))), some (.p (.lst [.tup []])), none, none, none, none] S = _ := l
  have rg := rg_len n (by omega)
  have hl : (hdsN (size : Int) n).length ≤ 729 := by
    have := hds_len size h8 n
    have : n = 0 ∨ n = 1 ∨ n = 2 ∨ n = 3 := by omega
    rcases this with rfl | rfl | rfl | rfl <;> omega
  have hz2 : (dit (tabV (hdsN (size : Int) n))).length ≤ 16777216 := by rw [dit_len, tabV_len]; omega
  have lc : lcGo ckT (.nm 5) dYes (dBin addO (dVar 5) (dTup (dCons (dBin subO (dVar 0) (dApp sumO (dCons (dVar 5) dNil))) dNil))) [some (.p (.int (size : Int))), some (.p (.int (n : Int))), some (.p (.lst (tabV (hdsN (size : Int) n)))), e3, e4, none, none] (dit (tabV (hdsN (size : Int) n))) S = .ok (tabV (allH (size : Int) n)) S := by
    rw [lc_map trivial (fun v => tupI (toRow v ++ [(size : Int) - (toRow v).sum])) (fun v hv => by
      obtain ⟨h, hh, rfl⟩ := List.mem_map.mp hv
      obtain ⟨g1, -, -⟩ := (hds_mem (by omega) n h).mp hh
      have su : ∀ S : AH, sumO [.p (tupI h)] S = some (.p (.int h.sum), S) := fun S => sumO_tup
      have ad : ∀ S : AH, addO (.p (tupI h)) (.p (.tup [.int ((size : Int) - h.sum)])) S = some (.p (tupI (h ++ [(size : Int) - h.sum])), S) := fun S => by
        rw [show addO (.p (tupI h)) (.p (.tup [.int ((size : Int) - h.sum)])) S = _ from addO_tup (by rw [List.length_map]; simp; omega)]
        simp
      rw [toRow_t]
      refine ⟨_, rfl, ?_⟩
      generalize tupI (h ++ [(size : Int) - h.sum]) = R2 at *
      generalize tupI h = R at *
      simp [su, ad])]
    unfold tabV allH
    rw [List.map_map, List.map_map]
    refine congrArg (fun x => Res.ok x S) (List.map_congr_left fun h _ => ?_)
    show tupI (toRow (tupI h) ++ [(size : Int) - (toRow (tupI h)).sum]) = _
    rw [toRow_t]
    rfl
  generalize tabV (allH (size : Int) n) = B at *
  generalize tabV (hdsN (size : Int) n) = A at *
  simp [d_law_all_heaps, b_law_all_heaps_, rg, l, ev_kLc hz2, wipeD, lc]
end DL
namespace DL
open PySem L2
/-! ### the pairs that the law finds -/
theorem sub_sum : ∀ (m : Nat) (u v : List Int), u.length = m → v.length = m → ((List.range m).map fun (k : Nat) => u.getD k 0 - v.getD k 0).sum = u.sum - v.sum := by
  intro m
  induction m with
  | zero => intro u v hu hv; rw [List.length_eq_zero_iff.mp hu, List.length_eq_zero_iff.mp hv]; rfl
  | succ m ih =>
    intro u v hu hv
    match u, v, hu, hv with
    | c :: u, d :: v, hu, hv =>
      rw [List.range_succ_eq_map, List.map_cons, List.map_map, List.sum_cons, List.sum_cons, List.sum_cons]
      have := ih u v (by simpa using hu) (by simpa using hv)
      have e : ((fun (k : Nat) => (c :: u).getD k 0 - (d :: v).getD k 0) ∘ Nat.succ) = fun (k : Nat) => u.getD k 0 - v.getD k 0 := by funext k; simp
      rw [e, this]
      simp
      omega
theorem cts_len (n : Nat) (l : List Int) : (cts n l).length = n + 1 := by unfold cts; rw [List.length_map, List.length_range]
theorem cts_sum {n : Nat} {P : List (List Int)} (h : Gp n P) : (cts n (P.flatten.map (· - 1))).sum = ((shp P).sum : Nat) := by
  have bb : ∀ c ∈ P.flatten, 1 ≤ c ∧ c ≤ (n : Int) + 1 := fun c hc => by
    obtain ⟨r, hr, hx⟩ := List.mem_flatten.mp hc
    exact h.b r hr c hx
  have p := lf_cts (n := n) (l := P.flatten.map (· - 1)) fun c hc => by
    obtain ⟨d, hd, rfl⟩ := List.mem_map.mp hc
    have := bb d hd
    omega
  have nn : ∀ i ∈ cts n (P.flatten.map (· - 1)), 0 ≤ i := fun i hi => by
    unfold cts at hi
    obtain ⟨k, _, rfl⟩ := List.mem_map.mp hi
    omega
  have ln := lf_len (a := 0) nn
  rw [p.length_eq, List.length_map, flat_len] at ln
  omega
theorem y_heap {n : Nat} {P : List (List Int)} (h : Gp n P) {a b : Nat} (a1 : 1 ≤ a) (b1 : 1 ≤ b) (b8 : b ≤ 8) (hs : (shp P).sum = a + b) {x : List Int} (hx : x ∈ allH (a : Int) n) (hy : ∀ c ∈ yOf n P x, 0 ≤ c) : HeapN n (yOf n P x) := by
  obtain ⟨g1, g2, g3⟩ := (allH_mem (by omega)).mp hx
  have s := sub_sum (n + 1) _ x (cts_len n (P.flatten.map (· - 1))) g1
  have sy : (yOf n P x).sum = (cts n (P.flatten.map (· - 1))).sum - x.sum := s
  rw [cts_sum h, g3, hs] at sy
  have := h.n1; have := h.n3
  have l := yOf_len n P x
  exact ⟨by omega, by omega, by omega, hy, by omega, by omega⟩
def prV (n : Nat) (P : List (List Int)) (x : List Int) : PV := .tup [tupI x, tupI (yOf n P x)]
theorem wk_turn {n : Nat} {P : List (List Int)} (h : Gp n P) {a b : Nat} (a1 : 1 ≤ a) (a8 : a ≤ 8) (b1 : 1 ≤ b) (b8 : b ≤ 8) (hs : (shp P).sum = a + b) {x : List Int} (hx : x ∈ allH (a : Int) n) (acc : List PV) (ha : acc.length ≤ 10000) (A B R4 d8 d9 : Option DV) (S : AH) :
    ∃ e8, L0_law_walked [some (.p (.tup (tabV P))), A, B, some (.p (.int (n : Int))), R4, some (.p (tupI (cts n (P.flatten.map (· - 1))))), some (.c S.length), some (.p (tupI x)), d8, d9] (S ++ [.lst acc]) = .nx [some (.p (.tup (tabV P))), A, B, some (.p (.int (n : Int))), R4, some (.p (tupI (cts n (P.flatten.map (· - 1))))), some (.c S.length), some (.p (tupI x)), e8, d9] (S ++ [.lst (if okX n P x = true then acc ++ [prV n P x] else acc)]) := by
  have n3 := h.n3
  obtain ⟨g1, g2, g3⟩ := (allH_mem (by omega)).mp hx
  refine ⟨some (.p (tupI (yOf n P x))), ?_⟩
  have rg : ∀ S : AH, kRng1 [.p (.int ((n : Int) + 1))] S = .ok (rangeI 0 (n + 1), ckT) S := fun S => rg_len (n + 1) (by omega) S
  have hz2 : (rangeI 0 (n + 1)).length ≤ 16777216 := by rw [rangeI_len]; omega
  have lc : ∀ (S2 : AH) (d8' : Option DV), lcGo ckT (.nm 9) dYes (dBin subO (dBin ixO (dVar 5) (dVar 9)) (dBin ixO (dVar 7) (dVar 9))) [some (.p (.tup (tabV P))), A, B, some (.p (.int (n : Int))), R4, some (.p (tupI (cts n (P.flatten.map (· - 1))))), some (.c S.length), some (.p (tupI x)), d8', none] (rangeI 0 (n + 1)) S2 = .ok ((yOf n P x).map PV.int) S2 := fun S2 d8' => by
    rw [lc_rmap (fun (k : Nat) => PV.int ((cts n (P.flatten.map (· - 1))).getD k 0 - x.getD k 0)) (fun k hk => by
      have i1 : ixO (.p (tupI (cts n (P.flatten.map (· - 1))))) (.p (.int (0 + (k : Int)))) S2 = some (.p (.int ((cts n (P.flatten.map (· - 1))).getD k 0)), S2) := by
        rw [Int.zero_add]
        refine ixO_tup (atI_map PV.int (atI_at (by omega) ?_))
        rw [show ((k : Int)).toNat = k by omega, List.getD_eq_getElem?_getD, List.getElem?_eq_getElem (by rw [cts_len]; exact hk)]
        rfl
      have i2 : ixO (.p (tupI x)) (.p (.int (0 + (k : Int)))) S2 = some (.p (.int (x.getD k 0)), S2) := by
        rw [Int.zero_add]
        refine ixO_tup (atI_map PV.int (atI_at (by omega) ?_))
        rw [show ((k : Int)).toNat = k by omega, List.getD_eq_getElem?_getD, List.getElem?_eq_getElem (by rw [g1]; exact hk)]
        rfl
      generalize tupI x = X at *
      generalize tupI (cts n (P.flatten.map (· - 1))) = C at *
      simp only [Int.zero_add] at i1 i2 ⊢
      simp [i1, i2])]
    unfold yOf
    rw [List.map_map]
    rfl
  have yn : yOf n P x ≠ [] := fun e => by have := yOf_len n P x; rw [e] at this; simp at this
  have mi : ∀ S2 : AH, minO2 [.p (tupI (yOf n P x))] S2 = some (.p (.int (minI (yOf n P x))), S2) := fun S2 => min2_tup yn
  have mm := minI_mem (yOf n P x) yn
  have q1 : (dSet 8 (dApp tupleO (dCons (dVal (dLc (dRng1 (dCons (dBin addO (dVar 3) (dC (.int 1))) dNil)) (.nm 9) dYes (dBin subO (dBin ixO (dVar 5) (dVar 9)) (dBin ixO (dVar 7) (dVar 9))) [9])) dNil))) [some (.p (.tup (tabV P))), A, B, some (.p (.int (n : Int))), R4, some (.p (tupI (cts n (P.flatten.map (· - 1))))), some (.c S.length), some (.p (tupI x)), d8, d9] (S ++ [.lst acc]) = .nx [some (.p (.tup (tabV P))), A, B, some (.p (.int (n : Int))), R4, some (.p (tupI (cts n (P.flatten.map (· - 1))))), some (.c S.length), some (.p (tupI x)), some (.p (tupI (yOf n P x))), d9] (S ++ [.lst acc]) := by
    have l := lc (S ++ [.lst acc]) d8
    have ey : tupI (yOf n P x) = .tup ((yOf n P x).map PV.int) := rfl
    rw [ey]
    generalize (yOf n P x).map PV.int = Y at *
    generalize tupI x = X at *
    generalize tupI (cts n (P.flatten.map (· - 1))) = C at *
    generalize tabV P = V at *
    simp [rg, ev_kLc hz2, wipeD, l]
  unfold L0_law_walked
  refine sq_step q1 ?_
  by_cases c : 0 ≤ minI (yOf n P x)
  · have ally : ∀ y ∈ yOf n P x, 0 ≤ y := fun y hy => by have := mm.2 y hy; omega
    have hy := y_heap h a1 b1 b8 hs hx ally
    have hxx : HeapN n x := ⟨by have := h.n1; omega, by omega, by omega, g2, by omega, by omega⟩
    have sy := hy.s2
    have lw : ∀ S2 : AH, d_law_heap_word [.p (.tup [tupI x, tupI (yOf n P x)])] S2 = .ok (.p (tupI (hw [x, yOf n P x]))) S2 := fun S2 => lw_okN (n := n) (hs := [x, yOf n P x]) (fun z hz => by
      rcases List.mem_cons.mp hz with rfl | hz
      · exact hxx
      · rw [List.mem_singleton.mp hz]; exact hy) (by show x.sum + ((yOf n P x).sum + 0) ≤ 100; omega) S2
    have wl : (hw [x, yOf n P x]).length ≤ 900 := by
      rw [hw_two, List.length_append]
      have := hw1_n hxx; have := hw1_n hy
      omega
    have po := pair_ok wl
    rw [pL_pair] at po
    have i0 : ∀ (u v : PV) (S2 : AH), ixO (.p (.tup [u, v])) (.p (.int 0)) S2 = some (.p u, S2) := fun u v S2 => ixO_tup (atI_at (by decide) rfl)
    have eq := eq_tabs (pL (hw [x, yOf n P x])) P
    have ap : ∀ y : PV, appendM (.c S.length) [.p y] (S ++ [.lst acc]) = some (.p .non, S ++ [.lst (acc ++ [y])]) := fun y => append_last (by omega)
    have ok : okX n P x = decide (pL (hw [x, yOf n P x]) = P) := by
      unfold okX
      rw [decide_eq_true ally, Bool.true_and]
    rw [ok]
    unfold prV
    by_cases e : pL (hw [x, yOf n P x]) = P
    · have d : decide (pL (hw [x, yOf n P x]) = P) = true := decide_eq_true e
      rw [d] at eq ⊢
      generalize tabV (pL (hw [x, yOf n P x])) = V2 at *
      generalize tabV (pairL (hw [x, yOf n P x])).2 = V3 at *
      generalize tupI (hw [x, yOf n P x]) = W at *
      generalize minI (yOf n P x) = m at *
      generalize tupI (yOf n P x) = Y at *
      generalize tupI x = X at *
      generalize tupI (cts n (P.flatten.map (· - 1))) = C at *
      generalize tabV P = V at *
      simp [mi, c, lw, po, i0, eq, ap]
    · have d : decide (pL (hw [x, yOf n P x]) = P) = false := decide_eq_false e
      rw [d] at eq ⊢
      generalize tabV (pL (hw [x, yOf n P x])) = V2 at *
      generalize tabV (pairL (hw [x, yOf n P x])).2 = V3 at *
      generalize tupI (hw [x, yOf n P x]) = W at *
      generalize minI (yOf n P x) = m at *
      generalize tupI (yOf n P x) = Y at *
      generalize tupI x = X at *
      generalize tupI (cts n (P.flatten.map (· - 1))) = C at *
      generalize tabV P = V at *
      simp [mi, c, lw, po, i0, eq]
  · have nok : okX n P x = false := by
      unfold okX
      rw [decide_eq_false (fun all => c (all _ mm.1)), Bool.false_and]
    rw [nok]
    generalize minI (yOf n P x) = m at *
    generalize tupI (yOf n P x) = Y at *
    generalize tupI x = X at *
    generalize tupI (cts n (P.flatten.map (· - 1))) = C at *
    generalize tabV P = V at *
    simp [mi, c]
theorem wk_loop {n : Nat} {P : List (List Int)} (h : Gp n P) {a b : Nat} (a1 : 1 ≤ a) (a8 : a ≤ 8) (b1 : 1 ≤ b) (b8 : b ≤ 8) (hs : (shp P).sum = a + b) (A B R4 d9 : Option DV) (S : AH) : ∀ (xs : List (List Int)) (acc : List PV) (d7 d8 : Option DV), (∀ x ∈ xs, x ∈ allH (a : Int) n) → acc.length + xs.length ≤ 10000 →
    ∃ e7 e8, forGo ckT (.nm 7) L0_law_walked (dit (tabV xs)) [some (.p (.tup (tabV P))), A, B, some (.p (.int (n : Int))), R4, some (.p (tupI (cts n (P.flatten.map (· - 1))))), some (.c S.length), d7, d8, d9] (S ++ [.lst acc]) = .nx [some (.p (.tup (tabV P))), A, B, some (.p (.int (n : Int))), R4, some (.p (tupI (cts n (P.flatten.map (· - 1))))), some (.c S.length), e7, e8, d9] (S ++ [.lst (acc ++ (xs.filter (okX n P)).map (prV n P))])
  | [], acc, d7, d8, _, _ => ⟨d7, d8, by show forGo _ _ _ [] _ _ = _; rw [for_nil]; simp⟩
  | x :: xs, acc, d7, d8, hx, ha => by
    rw [List.length_cons] at ha
    obtain ⟨e8, one⟩ := wk_turn h a1 a8 b1 b8 hs (hx x List.mem_cons_self) acc (by omega) A B R4 d8 d9 S
    obtain ⟨f7, f8, ih⟩ := wk_loop h a1 a8 b1 b8 hs A B R4 d9 S xs (if okX n P x = true then acc ++ [prV n P x] else acc) (some (.p (tupI x))) e8 (fun z hz => hx z (List.mem_cons_of_mem _ hz)) (by split; rw [List.length_append, List.length_singleton]; omega; omega)
    refine ⟨f7, f8, ?_⟩
    show forGo _ _ _ (.p (tupI x) :: dit (tabV xs)) _ _ = _
    rw [for_nm]
    show afterTurn (L0_law_walked [some (.p (.tup (tabV P))), A, B, some (.p (.int (n : Int))), R4, some (.p (tupI (cts n (P.flatten.map (· - 1))))), some (.c S.length), some (.p (tupI x)), d8, d9] (S ++ [.lst acc])) _ = _
    rw [one, after_nx, ih]
    by_cases q : okX n P x = true
    · rw [if_pos q, List.filter_cons, if_pos q]
      simp
    · rw [if_neg q, List.filter_cons, if_neg q]
def fndV (n : Nat) (P : List (List Int)) (a b : Nat) : List PV := match poH n P a b with
  | none => []
  | some (x, y) => [.tup [tupI x, tupI y]]
theorem walked_ok {n : Nat} {P : List (List Int)} (h : Gp n P) {a b : Nat} (a1 : 1 ≤ a) (a8 : a ≤ 8) (b1 : 1 ≤ b) (b8 : b ≤ 8) (S : AH) : d_law_walked [.p (.tup (tabV P)), .p (.int (a : Int)), .p (.int (b : Int)), .p (.int (n : Int))] S = .ok (.p (.lst (fndV n P a b))) S := by
  have hl := h.l
  have n3 := h.n3
  have hz : ∀ r ∈ P, r.length ≤ 900 := fun r hr => by have := h.z r hr; omega
  have hf : P.flatten.length ≤ 900 := by rw [flat_len]; have := h.s; omega
  have hz2 : (dit (tabV P)).length ≤ 16777216 := by rw [dit_len, tabV_len]; omega
  have lc : lcGo ckT (.nm 4) dYes (dApp lenO (dCons (dVar 4) dNil)) [some (.p (.tup (tabV P))), some (.p (.int (a : Int))), some (.p (.int (b : Int))), some (.p (.int (n : Int))), none, none, none, none, none, none] (dit (tabV P)) S = .ok (((shp P).map fun (k : Nat) => (k : Int)).map PV.int) S := by
    rw [lc_map trivial (fun v => .int (rlen v : Nat)) (fun v hv => by
      obtain ⟨r, hr, rfl⟩ := List.mem_map.mp hv
      refine ⟨_, rfl, ?_⟩
      rw [rlen_t]
      have le : ∀ S : AH, lenO [.p (tupI r)] S = some (.p (.int (r.length : Int)), S) := fun S => by
        show some (DV.p (.int ((r.map PV.int).length : Nat)), S) = _
        rw [List.length_map]
      generalize tupI r = R at *
      simp [le])]
    unfold tabV shp
    rw [List.map_map, List.map_map, List.map_map]
    refine congrArg (fun x => Res.ok x S) (List.map_congr_left fun r _ => ?_)
    show PV.int (rlen (tupI r) : Nat) = _
    rw [rlen_t]
    rfl
  have sm := sumO_lst (ns := (shp P).map fun (k : Nat) => (k : Int)) (S := S)
  have se : ((shp P).map fun (k : Nat) => (k : Int)).sum = ((shp P).sum : Nat) := sum_ntI (shp P)
  rw [se] at sm
  refine (dDef_ap rfl).trans ?_
  show gcK S false (b_law_walked_ [some (.p (.tup (tabV P))), some (.p (.int (a : Int))), some (.p (.int (b : Int))), some (.p (.int (n : Int))), none, none, none, none, none, none] S) = _
  have q0 : (dIf (blOf (dBin neO (dApp sumO (dCons (dVal (dLc (dSeqI (dVar 0)) (.nm 4) dYes (dApp lenO (dCons (dVar 4) dNil)) [4])) dNil)) (dBin addO (dVar 1) (dVar 2)))) (dRet (dVal (dLst dNil))) dPass) [some (.p (.tup (tabV P))), some (.p (.int (a : Int))), some (.p (.int (b : Int))), some (.p (.int (n : Int))), none, none, none, none, none, none] S = if (shp P).sum = a + b then .nx [some (.p (.tup (tabV P))), some (.p (.int (a : Int))), some (.p (.int (b : Int))), some (.p (.int (n : Int))), none, none, none, none, none, none] S else .rt (.p (.lst [])) S := by
    generalize ((shp P).map fun (k : Nat) => (k : Int)).map PV.int = L at *
    by_cases c : (shp P).sum = a + b
    · have c' : (((shp P).sum : Nat) : Int) = (a : Int) + (b : Int) := by omega
      rw [if_pos c]
      generalize (((shp P).sum : Nat) : Int) = s at *
      generalize tabV P = V at *
      simp [ev_kLc hz2, wipeD, lc, sm, c']
    · have c' : ¬ (((shp P).sum : Nat) : Int) = (a : Int) + (b : Int) := by omega
      rw [if_neg c]
      generalize (((shp P).sum : Nat) : Int) = s at *
      generalize tabV P = V at *
      simp [ev_kLc hz2, wipeD, lc, sm, c']
  unfold b_law_walked_
  rw [ev_seq, q0]
  by_cases c : (shp P).sum = a + b
  · rw [if_pos c, seq_nx]
    have co := content_ok hz hf n3 S
    have al := all_ok a a8 n3 (S ++ [.lst []])
    have lenA : (allH (a : Int) n).length ≤ 729 := by
      unfold allH
      rw [List.length_map]
      have := hds_len a a8 n
      have : n = 0 ∨ n = 1 ∨ n = 2 ∨ n = 3 := by omega
      rcases this with rfl | rfl | rfl | rfl <;> omega
    obtain ⟨e7, e8, l⟩ := wk_loop h a1 a8 b1 b8 c (some (.p (.int (a : Int)))) (some (.p (.int (b : Int)))) none none S (allH (a : Int) n) [] none none (fun x hx => hx) (by simp; omega)
    have fo := found_ok h a1 a8 b1 b8 c
    have fe : ((allH (a : Int) n).filter (okX n P)).map (prV n P) = fndV n P a b := by
      have : ((allH (a : Int) n).filter (okX n P)).map (prV n P) = (((allH (a : Int) n).filter (okX n P)).map (fun x => (x, yOf n P x))).map (fun q => PV.tup [tupI q.1, tupI q.2]) := by rw [List.map_map]; rfl
      rw [this, fo]
      unfold fndV
      cases poH n P a b with
      | none => rfl
      | some xy => rfl
    rw [List.nil_append, fe] at l
    have lf : (fndV n P a b).length ≤ 16777216 := by
      unfold fndV
      split <;> simp
    generalize fndV n P a b = F at *
    generalize tabV (allH (a : Int) n) = AA at *
    generalize tupI (cts n (P.flatten.map (· - 1))) = C at *
    generalize tabV P = V at *
    have body : (dSeq (dSet 5 (dCall d_law_content (dCons (dVar 0) (dCons (dVar 3) dNil))))
    (dSeq (dSet 6 (dCell (dLst dNil)))
    (dSeq (dFor (dSeqI (dCall d_law_all_heaps (dCons (dVar 1) (dCons (dVar 3) dNil)))) (.nm 7) L0_law_walked)
    (dRet (dVar 6))))) [some (.p (.tup V)), some (.p (.int (a : Int))), some (.p (.int (b : Int))), some (.p (.int (n : Int))), none, none, none, none, none, none] S = .rt (.c S.length) (S ++ [.lst F]) := by
      simp [co, al, l]
    rw [body, gc_lst (by simp) (Nat.le_refl _) (xs := F) (by simp)]
    simp
  · rw [if_neg c]
    have : fndV n P a b = [] := by
      unfold fndV poH
      rw [if_neg fun f => c (by rw [fit_sum f.1]; exact f.2.1)]
    rw [this]
    show gcK S false (.rt (.p (.lst [])) S) = _
    rw [gc_rt (by simp)]
    simp
end DL
namespace DL
open PySem L2
/-! ### what is refused -/
theorem sbM' : sub_Malformed "Malformed" = some true := by simp [sub_Malformed]
theorem refuses_of {p a b n : PV} (h : ∀ S, d_pair_of_heaps [.p p, .p a, .p b, .p n] S = Mf S) (S : AH) : d_law_refuses [.p p, .p a, .p b, .p n] S = .ok (.p (.bl true)) S := by
  simp [d_law_refuses, b_law_refuses_, h, try_exc sbM]
def badN (v : PV) : Prop := ∀ (p a b : PV) (S : AH), d_pair_of_heaps [.p p, .p a, .p b, .p v] S = Mf S
theorem bn_0 : badN (.int 0) := fun p a b S => by simp [d_pair_of_heaps, b_pair_of_heaps_, d_is_integer, b_is_integer_]
theorem bn_4 : badN (.int 4) := fun p a b S => by simp [d_pair_of_heaps, b_pair_of_heaps_, d_is_integer, b_is_integer_]
theorem bn_m : badN (.int (-1)) := fun p a b S => by simp [d_pair_of_heaps, b_pair_of_heaps_, d_is_integer, b_is_integer_]
theorem bn_t : badN (.bl true) := fun p a b S => by simp [d_pair_of_heaps, b_pair_of_heaps_, d_is_integer, b_is_integer_]
theorem bn_n : badN .non := fun p a b S => by simp [d_pair_of_heaps, b_pair_of_heaps_, d_is_integer, b_is_integer_]
theorem bn_s : badN (.str "1") := fun p a b S => by simp [d_pair_of_heaps, b_pair_of_heaps_, d_is_integer, b_is_integer_]
section
variable {n : Nat} (n1 : 1 ≤ n) (n3 : n ≤ 3)
include n1 n3
theorem ph_n (p a b : PV) (S : AH) : (dIf (dOr (dNot (dTru (dCall d_is_integer (dCons (dVar 3) dNil)))) (dOr (blOf (dBin ltO (dVar 3) (dC (.int 1)))) (blOf (dBin gtO (dVar 3) (dC (.int 3)))))) (dRaise "Malformed") dPass) [some (.p p), some (.p a), some (.p b), some (.p (.int (n : Int))), none, none, none, none, none, none, none, none, none, none] S = .nx [some (.p p), some (.p a), some (.p b), some (.p (.int (n : Int))), none, none, none, none, none, none, none, none, none, none] S := by
  have k1 : ¬ (n : Int) < 1 := by omega
  have k2 : ¬ (3 : Int) < (n : Int) := by omega
  have k1' : ¬ n = 0 := by omega
  have k2' : ¬ 3 < n := by omega
  simp [isint_ok, k1, k2, k1', k2']
/-- a value that is no room -/
def badR (v : PV) : Prop := ∀ (p a b : PV) (n : Nat) (S : AH), L0_pair_of_heaps [some (.p p), some (.p a), some (.p b), some (.p (.int (n : Int))), some (.p v), none, none, none, none, none, none, none, none, none] S = .exc "Malformed" [] [some (.p p), some (.p a), some (.p b), some (.p (.int (n : Int))), some (.p v), none, none, none, none, none, none, none, none, none] S
omit n1 n3 in
theorem br_0 : badR (.int 0) := fun p a b n S => by simp [L0_pair_of_heaps, d_is_integer, b_is_integer_]
omit n1 n3 in
theorem br_9 : badR (.int 9) := fun p a b n S => by simp [L0_pair_of_heaps, d_is_integer, b_is_integer_]
omit n1 n3 in
theorem br_m : badR (.int (-1)) := fun p a b n S => by simp [L0_pair_of_heaps, d_is_integer, b_is_integer_]
omit n1 n3 in
theorem br_t : badR (.bl true) := fun p a b n S => by simp [L0_pair_of_heaps, d_is_integer, b_is_integer_]
omit n1 n3 in
theorem br_n : badR .non := fun p a b n S => by simp [L0_pair_of_heaps, d_is_integer, b_is_integer_]
omit n1 n3 in
theorem br_s : badR (.str "1") := fun p a b n S => by simp [L0_pair_of_heaps, d_is_integer, b_is_integer_]
omit n1 n3 in
theorem br_u : badR (.tup [.int 1]) := fun p a b n S => by simp [L0_pair_of_heaps, d_is_integer, b_is_integer_]
theorem bad_a {v : PV} (h : badR v) (p b : PV) (S : AH) : d_pair_of_heaps [.p p, .p v, .p b, .p (.int (n : Int))] S = Mf S := by
  refine (dDef_ap rfl).trans ?_
  show gcK S false (b_pair_of_heaps_ [some (.p p), some (.p v), some (.p b), some (.p (.int (n : Int))), none, none, none, none, none, none, none, none, none, none] S) = _
  have e : b_pair_of_heaps_ [some (.p p), some (.p v), some (.p b), some (.p (.int (n : Int))), none, none, none, none, none, none, none, none, none, none] S = .exc "Malformed" [] [some (.p p), some (.p v), some (.p b), some (.p (.int (n : Int))), some (.p v), none, none, none, none, none, none, none, none, none] S := by
    unfold b_pair_of_heaps_
    refine sq_step (ph_n n1 n3 p v b S) ?_
    rw [ev_seq, ev_for]
    have it : dSeqI (dTup (dCons (dVar 1) (dCons (dVar 2) dNil))) [some (.p p), some (.p v), some (.p b), some (.p (.int (n : Int))), none, none, none, none, none, none, none, none, none, none] S = .ok ([.p v, .p b], ckT) S := by simp
    rw [it, out_ok, ev_jFor, for_nm]
    have := h p v b n S
    show Out.seq (afterTurn (L0_pair_of_heaps [some (.p p), some (.p v), some (.p b), some (.p (.int (n : Int))), some (.p v), none, none, none, none, none, none, none, none, none] S) _) _ = _
    rw [this]
    rfl
  rw [e, gc_exc (by simp)]
  simp
theorem room_go {v : Nat} (v1 : 1 ≤ v) (v8 : v ≤ 8) (p a b : PV) (d4 : Option DV) (S : AH) : L0_pair_of_heaps [some (.p p), some (.p a), some (.p b), some (.p (.int (n : Int))), some (.p (.int (v : Int))), none, none, none, none, none, none, none, none, none] S = .nx [some (.p p), some (.p a), some (.p b), some (.p (.int (n : Int))), some (.p (.int (v : Int))), none, none, none, none, none, none, none, none, none] S := by
  have k1 : ¬ (v : Int) < 1 := by omega
  have k2 : ¬ (8 : Int) < (v : Int) := by omega
  have k1' : ¬ v = 0 := by omega
  have k2' : ¬ 8 < v := by omega
  simp [L0_pair_of_heaps, isint_ok, k1, k2, k1', k2']
theorem bad_b {v : PV} (h : badR v) {a : Nat} (a1 : 1 ≤ a) (a8 : a ≤ 8) (p : PV) (S : AH) : d_pair_of_heaps [.p p, .p (.int (a : Int)), .p v, .p (.int (n : Int))] S = Mf S := by
  refine (dDef_ap rfl).trans ?_
  show gcK S false (b_pair_of_heaps_ [some (.p p), some (.p (.int (a : Int))), some (.p v), some (.p (.int (n : Int))), none, none, none, none, none, none, none, none, none, none] S) = _
  have e : b_pair_of_heaps_ [some (.p p), some (.p (.int (a : Int))), some (.p v), some (.p (.int (n : Int))), none, none, none, none, none, none, none, none, none, none] S = .exc "Malformed" [] [some (.p p), some (.p (.int (a : Int))), some (.p v), some (.p (.int (n : Int))), some (.p v), none, none, none, none, none, none, none, none, none] S := by
    unfold b_pair_of_heaps_
    refine sq_step (ph_n n1 n3 p _ v S) ?_
    rw [ev_seq, ev_for]
    have it : dSeqI (dTup (dCons (dVar 1) (dCons (dVar 2) dNil))) [some (.p p), some (.p (.int (a : Int))), some (.p v), some (.p (.int (n : Int))), none, none, none, none, none, none, none, none, none, none] S = .ok ([.p (.int (a : Int)), .p v], ckT) S := by simp
    rw [it, out_ok, ev_jFor, for_nm]
    show Out.seq (afterTurn (L0_pair_of_heaps [some (.p p), some (.p (.int (a : Int))), some (.p v), some (.p (.int (n : Int))), some (.p (.int (a : Int))), none, none, none, none, none, none, none, none, none] S) _) _ = _
    rw [room_go n1 n3 a1 a8 p _ v none S, after_nx, for_nm]
    have := h p (.int (a : Int)) v n S
    show Out.seq (afterTurn (L0_pair_of_heaps [some (.p p), some (.p (.int (a : Int))), some (.p v), some (.p (.int (n : Int))), some (.p v), none, none, none, none, none, none, none, none, none] S) _) _ = _
    rw [this]
    rfl
  rw [e, gc_exc (by simp)]
  simp
theorem ph_pre {a b : Nat} (a1 : 1 ≤ a) (a8 : a ≤ 8) (b1 : 1 ≤ b) (b8 : b ≤ 8) (p : PV) (S : AH) {f : Sig → AH → Out} {o : Out} (h : f [some (.p p), some (.p (.int (a : Int))), some (.p (.int (b : Int))), some (.p (.int (n : Int))), some (.p (.int (b : Int))), none, none, none, none, none, none, none, none, none] S = o) :
    (dSeq (dIf (dOr (dNot (dTru (dCall d_is_integer (dCons (dVar 3) dNil)))) (dOr (blOf (dBin ltO (dVar 3) (dC (.int 1)))) (blOf (dBin gtO (dVar 3) (dC (.int 3)))))) (dRaise "Malformed") dPass) (dSeq (dFor (dSeqI (dTup (dCons (dVar 1) (dCons (dVar 2) dNil)))) (.nm 4) L0_pair_of_heaps) f)) [some (.p p), some (.p (.int (a : Int))), some (.p (.int (b : Int))), some (.p (.int (n : Int))), none, none, none, none, none, none, none, none, none, none] S = o := by
  refine sq_step (ph_n n1 n3 p _ _ S) (sq_step ?_ h)
  rw [ev_for]
  have it : dSeqI (dTup (dCons (dVar 1) (dCons (dVar 2) dNil))) [some (.p p), some (.p (.int (a : Int))), some (.p (.int (b : Int))), some (.p (.int (n : Int))), none, none, none, none, none, none, none, none, none, none] S = .ok ([.p (.int (a : Int)), .p (.int (b : Int))], ckT) S := by simp
  rw [it, out_ok, ev_jFor, for_nm]
  show afterTurn (L0_pair_of_heaps [some (.p p), some (.p (.int (a : Int))), some (.p (.int (b : Int))), some (.p (.int (n : Int))), some (.p (.int (a : Int))), none, none, none, none, none, none, none, none, none] S) _ = _
  rw [room_go n1 n3 a1 a8 p _ _ none S, after_nx, for_nm]
  show afterTurn (L0_pair_of_heaps [some (.p p), some (.p (.int (a : Int))), some (.p (.int (b : Int))), some (.p (.int (n : Int))), some (.p (.int (b : Int))), none, none, none, none, none, none, none, none, none] S) _ = _
  rw [room_go n1 n3 b1 b8 p _ _ none S, after_nx, for_nil]
theorem bad_p {a b : Nat} (a1 : 1 ≤ a) (a8 : a ≤ 8) (b1 : 1 ≤ b) (b8 : b ≤ 8) {p : PV} (h : NoTab p) (S : AH) : d_pair_of_heaps [.p p, .p (.int (a : Int)), .p (.int (b : Int)), .p (.int (n : Int))] S = Mf S := by
  refine (dDef_ap rfl).trans ?_
  show gcK S false (b_pair_of_heaps_ [some (.p p), some (.p (.int (a : Int))), some (.p (.int (b : Int))), some (.p (.int (n : Int))), none, none, none, none, none, none, none, none, none, none] S) = _
  have ht := h.t
  have e : b_pair_of_heaps_ [some (.p p), some (.p (.int (a : Int))), some (.p (.int (b : Int))), some (.p (.int (n : Int))), none, none, none, none, none, none, none, none, none, none] S = .exc "Malformed" [] [some (.p p), some (.p (.int (a : Int))), some (.p (.int (b : Int))), some (.p (.int (n : Int))), some (.p (.int (b : Int))), none, none, none, none, none, none, none, none, none] S := by
    unfold b_pair_of_heaps_
    refine ph_pre n1 n3 a1 a8 b1 b8 p S ?_
    rw [ev_seq]
    have q : (dIf (dOr (dNot (dTru (dCall d_is_tableau (dCons (dVar 0) dNil)))) (blOf (dBin gtO (dApp maxO (dCons (dBin addO (dVal (dLc2 (dSeqI (dVar 0)) (.nm 5) dYes (dSeqI (dVar 5)) (.nm 6) dYes (dVar 6) [5, 6] [6])) (dVal (dLst (dCons (dC (.int 1)) dNil)))) dNil)) (dBin addO (dVar 3) (dC (.int 1)))))) (dRaise "Malformed") dPass) [some (.p p), some (.p (.int (a : Int))), some (.p (.int (b : Int))), some (.p (.int (n : Int))), some (.p (.int (b : Int))), none, none, none, none, none, none, none, none, none] S = .exc "Malformed" [] [some (.p p), some (.p (.int (a : Int))), some (.p (.int (b : Int))), some (.p (.int (n : Int))), some (.p (.int (b : Int))), none, none, none, none, none, none, none, none, none] S := by
      simp [ht]
    rw [q]
    rfl
  rw [e, gc_exc (by simp)]
  simp
/-- a letter too great -/
theorem bad_big {a b : Nat} (a1 : 1 ≤ a) (a8 : a ≤ 8) (b1 : 1 ≤ b) (b8 : b ≤ 8) (S : AH) : d_pair_of_heaps [.p (.tup [.tup [.int ((n : Int) + 2)]]), .p (.int (a : Int)), .p (.int (b : Int)), .p (.int (n : Int))] S = Mf S := by
  have ht : ∀ S, d_is_tableau [.p (.tup (tabV [[(n : Int) + 2]]))] S = .ok (.p (.bl true)) S := fun S => by
    rw [tab_ok (val_t (by simp) (by simp)) S, tabB_t (.one (by simp [Srt]) (by simp)) (fun r hr x hx => by
      rw [List.mem_singleton.mp hr] at hx
      rw [List.mem_singleton.mp hx]
      omega) (by simp [shp])]
  have m := max_rows (P := [[(n : Int) + 2]]) (by simp) (by simp) (by simp) (some (.p (.int (a : Int)))) (some (.p (.int (b : Int)))) (some (.p (.int (n : Int)))) (some (.p (.int (b : Int)))) [none, none, none, none, none, none, none] S
  have mx : (n : Int) + 1 < maxI ([[(n : Int) + 2]].flatten ++ [1]) := by
    have := (maxI_mem ([[(n : Int) + 2]].flatten ++ [1]) (by simp)).2 ((n : Int) + 2) (by simp)
    omega
  show d_pair_of_heaps [.p (.tup (tabV [[(n : Int) + 2]])), .p (.int (a : Int)), .p (.int (b : Int)), .p (.int (n : Int))] S = Mf S
  refine (dDef_ap rfl).trans ?_
  show gcK S false (b_pair_of_heaps_ [some (.p (.tup (tabV [[(n : Int) + 2]]))), some (.p (.int (a : Int))), some (.p (.int (b : Int))), some (.p (.int (n : Int))), none, none, none, none, none, none, none, none, none, none] S) = _
  have e : b_pair_of_heaps_ [some (.p (.tup (tabV [[(n : Int) + 2]]))), some (.p (.int (a : Int))), some (.p (.int (b : Int))), some (.p (.int (n : Int))), none, none, none, none, none, none, none, none, none, none] S = .exc "Malformed" [] [some (.p (.tup (tabV [[(n : Int) + 2]]))), some (.p (.int (a : Int))), some (.p (.int (b : Int))), some (.p (.int (n : Int))), some (.p (.int (b : Int))), none, none, none, none, none, none, none, none, none] S := by
    unfold b_pair_of_heaps_
    refine ph_pre n1 n3 a1 a8 b1 b8 _ S ?_
    rw [ev_seq]
    have q : (dIf (dOr (dNot (dTru (dCall d_is_tableau (dCons (dVar 0) dNil)))) (blOf (dBin gtO (dApp maxO (dCons (dBin addO (dVal (dLc2 (dSeqI (dVar 0)) (.nm 5) dYes (dSeqI (dVar 5)) (.nm 6) dYes (dVar 6) [5, 6] [6])) (dVal (dLst (dCons (dC (.int 1)) dNil)))) dNil)) (dBin addO (dVar 3) (dC (.int 1)))))) (dRaise "Malformed") dPass) [some (.p (.tup (tabV [[(n : Int) + 2]]))), some (.p (.int (a : Int))), some (.p (.int (b : Int))), some (.p (.int (n : Int))), some (.p (.int (b : Int))), none, none, none, none, none, none, none, none, none] S = .exc "Malformed" [] [some (.p (.tup (tabV [[(n : Int) + 2]]))), some (.p (.int (a : Int))), some (.p (.int (b : Int))), some (.p (.int (n : Int))), some (.p (.int (b : Int))), none, none, none, none, none, none, none, none, none] S := by
      generalize (dApp maxO (dCons (dBin addO (dVal (dLc2 (dSeqI (dVar 0)) (.nm 5) dYes (dSeqI (dVar 5)) (.nm 6) dYes (dVar 6) [5, 6] [6])) (dVal (dLst (dCons (dC (.int 1)) dNil)))) dNil)) = M at *
      generalize maxI ([[(n : Int) + 2]].flatten ++ [1]) = mm at *
      generalize tabV [[(n : Int) + 2]] = V at *
      simp [ht, m, mx]
    rw [q]
    rfl
  rw [e, gc_exc (by simp)]
  simp
end
end DL
namespace DL
open PySem L2
/-! ### the law -/
theorem lword_b {c : Cell} (hc : St2 c) {most letters : Int} (h0 : 0 ≤ most) (h1 : most ≤ 12) (k0 : 1 ≤ letters) (k1 : letters ≤ 6) : ∃ w c', St2 c' ∧ (∀ x ∈ w, 1 ≤ x ∧ x ≤ letters) ∧ w.length ≤ 12 ∧ d_law_word [.c 0, .p (.int most), .p (.int letters)] [c] = .ok (.p (tupI w)) [c'] := by
  obtain ⟨n, c1, hc1, hn, t1⟩ := take_ok hc (m := most + 1) [] (by omega) (by omega)
  obtain ⟨m, hm⟩ : ∃ m : Nat, n = (m : Int) := ⟨n.toNat, by omega⟩
  subst hm
  have hz : (rangeI 0 m).length ≤ 16777216 := by rw [rangeI_len]; omega
  obtain ⟨vs, c2, hc2, hl, hvs, e⟩ := lc_draw (J := []) (i := 3) (δ := [some (.c 0), some (.p (.int most)), some (.p (.int letters)), none]) (fe := dBin addO (dC (.int 1)) (dCall d_law_take (dCons (dVar 0) (dCons (dVar 2) dNil)))) (P := fun v => 1 ≤ v ∧ v ≤ letters) (fun x c hc => by
    obtain ⟨v, c', hc', hv, t⟩ := take_ok hc (m := letters) [] (by omega) (by omega)
    exact ⟨1 + v, c', hc', ⟨by omega, by omega⟩, by simp [t]⟩) m 0 c1 hc1
  obtain ⟨a2, b2, rfl⟩ := hc2
  refine ⟨vs, _, ⟨a2, b2, rfl⟩, hvs, by omega, ?_⟩
  obtain ⟨a0, b0, rfl⟩ := hc
  simp [d_law_word, b_law_word_, t1, rg_len m (by omega), ev_kLc hz, wipeD]
  rw [e]
  simp
theorem gp_of {n : Nat} (n1 : 1 ≤ n) (n3 : n ≤ 3) {w : List Int} (hb : ∀ x ∈ w, 1 ≤ x ∧ x ≤ (n : Int) + 1) (hl : w.length ≤ 12) : Gp n (pL w) := by
  have pl := pairL_len w
  have pg := (pairL_good w).1
  rw [pL_pair] at pl pg
  refine ⟨n1, n3, tab_pL w, by omega, fun r hr => by have := (pg r hr).2; omega, by rw [shp_sum]; exact hl, fun r hr a ha => ?_⟩
  exact hb a ((pL_flat w).mem_iff.mpr (List.mem_flatten.mpr ⟨r, hr, ha⟩))
def toldV (n : Nat) (P : List (List Int)) (a b : Nat) : PV := match poH n P a b with
  | none => .non
  | some (x, y) => .tup [tupI x, tupI y]
theorem cts_small (n : Nat) (l : List Int) : (cts n l).length ≤ 20000 ∨ 20000 < n + 1 := by rw [cts_len]; omega
theorem told_pn {n : Nat} (n3 : n ≤ 3) (P : List (List Int)) (a b : Nat) : Pn 2 (toldV n P a b) := by
  unfold toldV poH
  by_cases f : Fit P a b
  · rw [if_pos f]
    refine ⟨by simp, fun x hx => ?_⟩
    rcases List.mem_cons.mp hx with rfl | hx
    · exact pn_ints (by rw [cts_len]; omega)
    · rw [List.mem_singleton.mp hx]
      exact pn_ints (by rw [cts_len]; omega)
  · rw [if_neg f]
    exact pn_non
theorem fit_two (x y : List Int) : (PV.tup [tupI x, tupI y]).fit 2 := fun z hz => by
  rcases List.mem_cons.mp hz with rfl | hz
  · exact fit_ints x
  · rw [List.mem_singleton.mp hz]; exact fit_ints y
abbrev lw (D : PV) (n : Nat) (v3 : Option DV) (x y : List Int) (P : List (List Int)) (v8 v9 v10 v11 v12 v13 v14 v15 : Option DV) : Sig := [some (.p D), some (.c 0), some (.p (.int (n : Int))), v3, some (.p (tupI x)), some (.p (tupI y)), some (.p (.tup (tabV P))), some (.p (.int ((shp P).sum : Nat))), v8, v9, v10, v11, v12, v13, v14, v15]
theorem chk_turn (D : PV) {n : Nat} {P : List (List Int)} (h : Gp n P) {a b : Nat} (a1 : 1 ≤ a) (a8 : a ≤ 8) (b1 : 1 ≤ b) (b8 : b ≤ 8) (v3 : Option DV) (x y : List Int) (v9 v12 v13 : Option DV) (S : AH) :
    ∃ e12 e13, (dSeq (dSet 12 (dCall (d_law_plain 8) (dCons (dCall d_pair_of_heaps (dCons (dVar 6) (dCons (dVar 10) (dCons (dVar 11) (dCons (dVar 2) dNil))))) dNil)))
    (dSeq (dSet 13 (dCall d_law_walked (dCons (dVar 6) (dCons (dVar 10) (dCons (dVar 11) (dCons (dVar 2) dNil))))))
    (dIf (dOr (blOf (dBin gtO (dApp lenO (dCons (dVar 13) dNil)) (dC (.int 1)))) (blOf (dBin neO (dVar 12) (dIte (blOf (dBin eqO (dApp lenO (dCons (dVar 13) dNil)) (dC (.int 1)))) (dBin ixO (dVar 13) (dC (.int 0))) (dC .non))))) (dRet (dC (.bl false))) dPass))) (lw D n v3 x y P none v9 (some (.p (.int (a : Int)))) (some (.p (.int (b : Int)))) v12 v13 none none) S = .nx (lw D n v3 x y P none v9 (some (.p (.int (a : Int)))) (some (.p (.int (b : Int)))) e12 e13 none none) S := by
  have po : ∀ S, d_pair_of_heaps [.p (.tup (tabV P)), .p (.int (a : Int)), .p (.int (b : Int)), .p (.int (n : Int))] S = .ok (.p (toldV n P a b)) S := poh_ok h a1 a8 b1 b8
  have wo := walked_ok h a1 a8 b1 b8
  have pl : ∀ S, d_law_plain 8 [.p (toldV n P a b)] S = .ok (.p (toldV n P a b)) S := fun S => plain_pn (told_pn h.n3 P a b) 8 (by decide) S
  refine ⟨some (.p (toldV n P a b)), some (.p (.lst (fndV n P a b))), ?_⟩
  unfold lw
  unfold toldV fndV at *
  cases e : poH n P a b with
  | none =>
    rw [e] at po wo pl
    have nn : ∀ S : AH, neO (.p .non) (.p .non) S = some (.p (.bl false), S) := fun S => neO_self (n := 1) trivial (by decide)
    generalize tabV P = V at *
    generalize tupI x = X at *
    generalize tupI y = Y at *
    simp [po, wo, pl, nn]
  | some xy =>
    obtain ⟨x0, y0⟩ := xy
    rw [e] at po wo pl
    have nn : ∀ S : AH, neO (.p (.tup [tupI x0, tupI y0])) (.p (.tup [tupI x0, tupI y0])) S = some (.p (.bl false), S) := fun S => neO_self (fit_two x0 y0) (by decide)
    have i0 : ∀ (v : PV) (S : AH), ixO (.p (.lst [v])) (.p (.int 0)) S = some (.p v, S) := fun v S => ixO_lst (atI_at (by decide) rfl)
    dsimp only at po wo pl ⊢
    generalize (PV.tup [tupI x0, tupI y0]) = Q at *
    generalize tabV P = V at *
    generalize tupI x = X at *
    generalize tupI y = Y at *
    simp [po, wo, pl, nn, i0]
theorem law_turn (D : PV) {n : Nat} {P : List (List Int)} (h : Gp n P) {c : Cell} (hc : St2 c) (v3 : Option DV) (x y : List Int) (v9 v10 v11 v12 v13 : Option DV) :
    ∃ c' e10 e11 e12 e13, St2 c' ∧ L0_law (lw D n v3 x y P none v9 v10 v11 v12 v13 none none) [c] = .nx (lw D n v3 x y P none v9 e10 e11 e12 e13 none none) [c'] := by
  obtain ⟨a0, c1, hc1, ha, t1⟩ := take_ok hc (m := 8) [] (by omega) (by omega)
  obtain ⟨k, c2, hc2, hk, t2⟩ := take_ok hc1 (m := 6) [] (by omega) (by omega)
  obtain ⟨b0, c3, hc3, hb, t3⟩ := take_ok hc2 (m := 8) [] (by omega) (by omega)
  obtain ⟨a, haN⟩ : ∃ a : Nat, 1 + a0 = (a : Int) := ⟨(1 + a0).toNat, by omega⟩
  have key : ∀ (z : Int) (c' : Cell), ∃ e12 e13, (dIf (blOf (dChain leO leO (dC (.int 1)) (dVar 11) (dC (.int 8)))) (dSeq (dSet 12 (dCall (d_law_plain 8) (dCons (dCall d_pair_of_heaps (dCons (dVar 6) (dCons (dVar 10) (dCons (dVar 11) (dCons (dVar 2) dNil))))) dNil)))
    (dSeq (dSet 13 (dCall d_law_walked (dCons (dVar 6) (dCons (dVar 10) (dCons (dVar 11) (dCons (dVar 2) dNil))))))
    (dIf (dOr (blOf (dBin gtO (dApp lenO (dCons (dVar 13) dNil)) (dC (.int 1)))) (blOf (dBin neO (dVar 12) (dIte (blOf (dBin eqO (dApp lenO (dCons (dVar 13) dNil)) (dC (.int 1)))) (dBin ixO (dVar 13) (dC (.int 0))) (dC .non))))) (dRet (dC (.bl false))) dPass))) dPass) (lw D n v3 x y P none v9 (some (.p (.int (a : Int)))) (some (.p (.int z))) v12 v13 none none) [c'] = .nx (lw D n v3 x y P none v9 (some (.p (.int (a : Int)))) (some (.p (.int z))) e12 e13 none none) [c'] := fun z c' => by
    by_cases q : 1 ≤ z ∧ z ≤ 8
    · obtain ⟨b, rfl⟩ : ∃ b : Nat, z = (b : Int) := ⟨z.toNat, by omega⟩
      obtain ⟨e12, e13, r⟩ := chk_turn D h (a := a) (b := b) (by omega) (by omega) (by omega) (by omega) v3 x y v9 v12 v13 [c']
      refine ⟨e12, e13, ?_⟩
      rw [ev_if]
      have cnd : (blOf (dChain leO leO (dC (.int 1)) (dVar 11) (dC (.int 8)))) (lw D n v3 x y P none v9 (some (.p (.int (a : Int)))) (some (.p (.int (b : Int)))) v12 v13 none none) [c'] = .ok true [c'] := by
        have q1 : (1 : Int) ≤ (b : Int) := q.1
        have q2 : (b : Int) ≤ 8 := q.2
        unfold lw
        generalize tabV P = V at *
        generalize (b : Int) = zz at *
        simp [q1, q2]
      rw [cnd, out_ok]
      exact r
    · refine ⟨v12, v13, ?_⟩
      rw [ev_if]
      have cnd : (blOf (dChain leO leO (dC (.int 1)) (dVar 11) (dC (.int 8)))) (lw D n v3 x y P none v9 (some (.p (.int (a : Int)))) (some (.p (.int z))) v12 v13 none none) [c'] = .ok false [c'] := by
        unfold lw
        generalize tabV P = V at *
        by_cases q1 : (1 : Int) ≤ z
        · have q2 : ¬ z ≤ 8 := fun w => q ⟨q1, w⟩
          simp [q1, q2]
        · simp [q1]
      rw [cnd, out_ok]
      simp
  have s1 : (dSet 10 (dBin addO (dC (.int 1)) (dCall d_law_take (dCons (dVar 1) (dCons (dC (.int 8)) dNil))))) (lw D n v3 x y P none v9 v10 v11 v12 v13 none none) [c] = .nx (lw D n v3 x y P none v9 (some (.p (.int (a : Int)))) v11 v12 v13 none none) [c1] := by
    unfold lw
    generalize tabV P = V at *
    simp [t1, haN]
  have s2 : ∀ c1, (dSet 11 (dBin subO (dVar 7) (dVar 10))) (lw D n v3 x y P none v9 (some (.p (.int (a : Int)))) v11 v12 v13 none none) [c1] = .nx (lw D n v3 x y P none v9 (some (.p (.int (a : Int)))) (some (.p (.int (((shp P).sum : Nat) - (a : Int))))) v12 v13 none none) [c1] := fun c1 => by
    unfold lw
    generalize tabV P = V at *
    generalize (((shp P).sum : Nat) : Int) = s at *
    simp
  by_cases q : k = 0
  · obtain ⟨e12, e13, r⟩ := key (1 + b0) c3
    refine ⟨c3, some (.p (.int (a : Int))), some (.p (.int (1 + b0))), e12, e13, hc3, ?_⟩
    unfold L0_law
    refine sq_step s1 (sq_step (s2 c1) (sq_step (δ1 := lw D n v3 x y P none v9 (some (.p (.int (a : Int)))) (some (.p (.int (1 + b0)))) v12 v13 none none) (S1 := [c3]) ?_ r))
    unfold lw
    subst q
    generalize tabV P = V at *
    generalize (((shp P).sum : Nat) : Int) = s at *
    simp [t2, t3]
  · obtain ⟨e12, e13, r⟩ := key (((shp P).sum : Nat) - (a : Int)) c2
    refine ⟨c2, some (.p (.int (a : Int))), some (.p (.int (((shp P).sum : Nat) - (a : Int)))), e12, e13, hc2, ?_⟩
    unfold L0_law
    refine sq_step s1 (sq_step (s2 c1) (sq_step (δ1 := lw D n v3 x y P none v9 (some (.p (.int (a : Int)))) (some (.p (.int (((shp P).sum : Nat) - (a : Int))))) v12 v13 none none) (S1 := [c2]) ?_ r))
    unfold lw
    generalize tabV P = V at *
    generalize (((shp P).sum : Nat) : Int) = s at *
    simp [t2, q]
theorem law_turns (D : PV) {n : Nat} {P : List (List Int)} (h : Gp n P) (v3 : Option DV) (x y : List Int) : ∀ (m : Nat) (lo : Int) {c : Cell} (v9 v10 v11 v12 v13 : Option DV), St2 c → ∃ c' e9 e10 e11 e12 e13, St2 c' ∧ forGo ckT (.nm 9) L0_law (rangeI lo m) (lw D n v3 x y P none v9 v10 v11 v12 v13 none none) [c] = .nx (lw D n v3 x y P none e9 e10 e11 e12 e13 none none) [c']
  | 0, lo, c, v9, v10, v11, v12, v13, hc => ⟨c, v9, v10, v11, v12, v13, hc, for_nil⟩
  | m + 1, lo, c, v9, v10, v11, v12, v13, hc => by
    obtain ⟨c1, e10, e11, e12, e13, hc1, t⟩ := law_turn D h hc v3 x y (some (.p (.int lo))) v10 v11 v12 v13
    obtain ⟨c2, f9, f10, f11, f12, f13, hc2, r⟩ := law_turns D h v3 x y m (lo + 1) (some (.p (.int lo))) e10 e11 e12 e13 hc1
    refine ⟨c2, f9, f10, f11, f12, f13, hc2, ?_⟩
    rw [range_succ, for_nm]
    show afterTurn (L0_law (lw D n v3 x y P none (some (.p (.int lo))) v10 v11 v12 v13 none none) [c]) _ = _
    rw [t, after_nx, r]
end DL
namespace DL
open PySem L2
theorem loop_rf {fb : Sig → AH → Out} {δ : Sig} {S : AH} : ∀ (vs : List PV) (y0 : Option DV), (∀ v ∈ vs, fb (δ.set 15 (some (.p v))) S = .nx (δ.set 15 (some (.p v))) S) → ∃ y, forGo ckT (.nm 15) fb (dit vs) (δ.set 15 y0) S = .nx (δ.set 15 y) S := fun vs y0 h => loop_same (dit vs) y0 fun x hx => by
  obtain ⟨v, hv, rfl⟩ := of_dit hx
  exact h v hv
theorem val_tab1 {xs : List PV} (h : ∀ x ∈ xs, Simple x) (l : xs.length ≤ 1000) : Val [.tup xs] := val_one h l
/-- the wrong tableaux -/
theorem wrong_p {n : Nat} (n1 : 1 ≤ n) (n3 : n ≤ 3) {P : List (List Int)} (hP : Gp n P) {a b : Nat} (a1 : 1 ≤ a) (a8 : a ≤ 8) (b1 : 1 ≤ b) (b8 : b ≤ 8) (xs13 : List PV) (h13 : xs13 = List.replicate 13 (.int ((n : Int) + 2))) (ys13 : List PV) (g13 : ys13 = List.replicate 13 (.int 1)) :
    ∀ v ∈ [PV.non, .int 0, .str "1", .lst (tabV P ++ [.tup [.int 1]]), .tup (tabV P ++ [.tup xs13]), .tup [.tup [.int ((n : Int) + 2)]], .tup [.tup [.int 0]], .tup [.tup [.bl true]], .tup [.tup [.int 2, .int 1]], .tup [.tup [.int 1], .tup [.int 1]], .tup [.tup ys13]], ∀ S, d_pair_of_heaps [.p v, .p (.int (a : Int)), .p (.int (b : Int)), .p (.int (n : Int))] S = Mf S := by
  have bp : ∀ {v : PV}, NoTab v → ∀ S, d_pair_of_heaps [.p v, .p (.int (a : Int)), .p (.int (b : Int)), .p (.int (n : Int))] S = Mf S := fun h => bad_p n1 n3 a1 a8 b1 b8 h
  have vP : Val (tabV P) := val_t (by have := hP.l; omega) fun r hr => by have := hP.z r hr; omega
  have v1 : ∀ (xs : List PV), (∀ x ∈ xs, Simple x) → xs.length ≤ 1000 → Val [.tup xs] := fun xs h l => val_one h l
  intro v hv
  simp only [List.mem_cons, List.not_mem_nil, or_false] at hv
  rcases hv with rfl | rfl | rfl | rfl | rfl | rfl | rfl | rfl | rfl | rfl | rfl
  · exact bp nt_non
  · exact bp (nt_int 0)
  · exact bp (nt_str _)
  · exact bp (nt_lst _)
  · refine bp (nt_val (val_app vP (v1 xs13 (fun x hx => by rw [h13] at hx; rw [List.eq_of_mem_replicate hx]; exact .int _) (by rw [h13]; simp)) (by rw [tabV_len]; have := hP.l; simp; omega)) (tabB_hr (bad_13 (by rw [h13]; simp))))
  · exact bad_big n1 n3 a1 a8 b1 b8
  · exact bp (nt_val (v1 _ (simp_ints [0]) (by simp)) (by decide +kernel))
  · exact bp (nt_val (v1 [.bl true] (fun x hx => by rw [List.mem_singleton.mp hx]; exact .bl _) (by simp)) (by decide +kernel))
  · exact bp (nt_val (v1 _ (simp_ints [2, 1]) (by simp)) (by decide +kernel))
  · exact bp (nt_val (val_app (v1 _ (simp_ints [1]) (by simp)) (v1 _ (simp_ints [1]) (by simp)) (by simp)) (by decide +kernel))
  · have := bad_13 (vs := []) (xs := ys13) (by rw [g13]; simp)
    exact bp (nt_val (v1 ys13 (fun x hx => by rw [g13] at hx; rw [List.eq_of_mem_replicate hx]; exact .int _) (by rw [g13]; simp)) (tabB_hr this))
theorem rep13 (z : PV) (S : AH) : mulO1 (.p (.tup [z])) (.p (.int 13)) S = some (.p (.tup (List.replicate 13 z)), S) := by
  rw [mulO1_tup ⟨by simp, by decide, by decide, by simp⟩]
  rfl
theorem lens_go {P : List (List Int)} {δ : Sig} {S : AH} {i : Nat} (h : ∀ z, (δ.set i z)[i]? = some z) : lcGo ckT (.nm i) dYes (dApp lenO (dCons (dVar i) dNil)) δ (dit (tabV P)) S = .ok (((shp P).map fun (k : Nat) => (k : Int)).map PV.int) S := by
  rw [lc_map trivial (fun v => .int (rlen v : Nat)) (fun v hv => by
    obtain ⟨r, hr, rfl⟩ := List.mem_map.mp hv
    refine ⟨_, rfl, ?_⟩
    rw [rlen_t]
    have le : ∀ S : AH, lenO [.p (tupI r)] S = some (.p (.int (r.length : Int)), S) := fun S => by
      show some (DV.p (.int ((r.map PV.int).length : Nat)), S) = _
      rw [List.length_map]
    have hv : dVar i (δ.set i (some (.p (tupI r)))) S = .ok (.p (tupI r)) S := by unfold dVar; rw [h]
    generalize tupI r = R at *
    simp [h, le])]
  unfold tabV shp
  rw [List.map_map, List.map_map, List.map_map]
  refine congrArg (fun x => Res.ok x S) (List.map_congr_left fun r _ => ?_)
  show PV.int (rlen (tupI r) : Nat) = _
  rw [rlen_t]
  rfl
theorem law_true (ns : List Int) (hn : ns.length ≤ 63) : ∃ S, d_law [.p (.fro (ns.map PV.int))] [] = .ok (.p (.bl true)) S := by
  obtain ⟨a0, b0, t0⟩ := state_ok ns
  obtain ⟨c0, hc0, ec0⟩ : ∃ c0 : Cell, St2 c0 ∧ Cell.lst [.int a0, .int b0] = c0 := ⟨_, ⟨a0, b0, rfl⟩, rfl⟩
  rw [ec0] at t0
  obtain ⟨k, c1, hc1, hk, t1⟩ := take_ok hc0 (m := 3) [] (by omega) (by omega)
  obtain ⟨n, hnn⟩ : ∃ n : Nat, 1 + k = (n : Int) := ⟨(1 + k).toNat, by omega⟩
  have n1 : 1 ≤ n := by omega
  have n3 : n ≤ 3 := by omega
  obtain ⟨most, m1, m8, e3⟩ : ∃ most : Int, 5 ≤ most ∧ most ≤ 8 ∧ ∀ S : AH, ixO (.p (.lst [.int 8, .int 6, .int 5])) (.p (.int ((n : Int) - 1))) S = some (.p (.int most), S) := by
    have : n = 1 ∨ n = 2 ∨ n = 3 := by omega
    rcases this with rfl | rfl | rfl
    · exact ⟨8, by decide, by decide, fun S => ixO_lst rfl⟩
    · exact ⟨6, by decide, by decide, fun S => ixO_lst rfl⟩
    · exact ⟨5, by decide, by decide, fun S => ixO_lst rfl⟩
  obtain ⟨m6, hm6⟩ : ∃ m6 : Int, (if 6 < most then 6 else most) = m6 := ⟨_, rfl⟩
  have hm6b : 1 ≤ m6 ∧ m6 ≤ 6 := by split at hm6 <;> omega
  obtain ⟨x, c2, hc2, hx, sx, t4⟩ := lheap_le hc1 n n1 n3 (most := m6) (by omega) (by omega)
  obtain ⟨y, c3, hc3, hy, sy, t5⟩ := lheap_le hc2 n n1 n3 (most := m6) (by omega) (by omega)
  obtain ⟨k4, c4, hc4, hk4, t6⟩ := take_ok hc3 (m := 4) [] (by omega) (by omega)
  obtain ⟨w9, c5, hc5, hw9, lw9, t7⟩ := lword_b hc4 (most := 9) (letters := (n : Int) + 1) (by omega) (by omega) (by omega) (by omega)
  generalize (PV.fro (ns.map PV.int)) = D at *
  have hwl : (hw [x, y]).length ≤ 12 := by
    rw [hw_two, List.length_append]
    have := hw1_n hx; have := hw1_n hy
    omega
  have hwb : ∀ z ∈ hw [x, y], 1 ≤ z ∧ z ≤ (n : Int) + 1 := fun z hz => by
    rw [hw_two] at hz
    rcases List.mem_append.mp hz with hz | hz
    · exact hw1_b hx z hz
    · exact hw1_b hy z hz
  have gW := gp_of n1 n3 hwb hwl
  have lwd : ∀ S, d_law_heap_word [.p (.tup [tupI x, tupI y])] S = .ok (.p (tupI (hw [x, y]))) S := fun S => lw_okN (n := n) (hs := [x, y]) (fun z hz => by
    rcases List.mem_cons.mp hz with rfl | hz
    · exact hx
    · rw [List.mem_singleton.mp hz]; exact hy) (by show x.sum + (y.sum + 0) ≤ 100; omega) S
  have po := pair_ok (w := hw [x, y]) (by omega)
  rw [pL_pair] at po
  have po9 := pair_ok (w := w9) (by omega)
  rw [pL_pair] at po9
  have i0 : ∀ (u v : PV) (S2 : AH), ixO (.p (.tup [u, v])) (.p (.int 0)) S2 = some (.p u, S2) := fun u v S2 => ixO_tup (atI_at (by decide) rfl)
  have s5 : ∀ S, (dSet 6 (dBin ixO (dCall d_law_pair (dCons (dCall d_law_heap_word (dCons (dTup (dCons (dVar 4) (dCons (dVar 5) dNil))) dNil)) dNil)) (dC (.int 0)))) [some (.p D), some (.c 0), some (.p (.int (n : Int))), some (.p (.int most)), some (.p (tupI x)), some (.p (tupI y)), none, none, none, none, none, none, none, none, none, none] S = .nx [some (.p D), some (.c 0), some (.p (.int (n : Int))), some (.p (.int most)), some (.p (tupI x)), some (.p (tupI y)), some (.p (.tup (tabV (pL (hw [x, y]))))), none, none, none, none, none, none, none, none, none] S := fun S => by
    generalize tabV (pL (hw [x, y])) = V at *
    generalize tabV (pairL (hw [x, y])).2 = V2 at *
    generalize tupI (hw [x, y]) = W at *
    generalize tupI x = X at *
    generalize tupI y = Y at *
    simp [lwd, po, i0]
  obtain ⟨P, cP, hcP, gP, s6⟩ : ∃ P cP, St2 cP ∧ Gp n P ∧ (dIf (blOf (dBin eqO (dCall d_law_take (dCons (dVar 1) (dCons (dC (.int 4)) dNil))) (dC (.int 0)))) (dSet 6 (dBin ixO (dCall d_law_pair (dCons (dCall d_law_word (dCons (dVar 1) (dCons (dC (.int 9)) (dCons (dBin addO (dVar 2) (dC (.int 1))) dNil)))) dNil)) (dC (.int 0)))) dPass) [some (.p D), some (.c 0), some (.p (.int (n : Int))), some (.p (.int most)), some (.p (tupI x)), some (.p (tupI y)), some (.p (.tup (tabV (pL (hw [x, y]))))), none, none, none, none, none, none, none, none, none] [c3] = .nx [some (.p D), some (.c 0), some (.p (.int (n : Int))), some (.p (.int most)), some (.p (tupI x)), some (.p (tupI y)), some (.p (.tup (tabV P))), none, none, none, none, none, none, none, none, none] [cP] := by
    by_cases q : k4 = 0
    · refine ⟨pL w9, c5, hc5, gp_of n1 n3 hw9 lw9, ?_⟩
      subst q
      generalize tabV (pL (hw [x, y])) = V at *
      generalize tabV (pL w9) = V9 at *
      generalize tabV (pairL w9).2 = V2 at *
      generalize tupI w9 = W at *
      generalize tupI x = X at *
      generalize tupI y = Y at *
      simp [t6, t7, po9, i0]
    · refine ⟨pL (hw [x, y]), c4, hc4, gW, ?_⟩
      generalize tabV (pL (hw [x, y])) = V at *
      generalize tupI x = X at *
      generalize tupI y = Y at *
      simp [t6, q]
  have s7 : ∀ S, (dSet 7 (dApp sumO (dCons (dVal (dLc (dSeqI (dVar 6)) (.nm 8) dYes (dApp lenO (dCons (dVar 8) dNil)) [8])) dNil))) [some (.p D), some (.c 0), some (.p (.int (n : Int))), some (.p (.int most)), some (.p (tupI x)), some (.p (tupI y)), some (.p (.tup (tabV P))), none, none, none, none, none, none, none, none, none] S = .nx (lw D n (some (.p (.int most))) x y P none none none none none none none none) S := fun S => by
    have hz2 : (dit (tabV P)).length ≤ 16777216 := by rw [dit_len, tabV_len]; have := gP.l; omega
    have l := lens_go (P := P) (δ := [some (.p D), some (.c 0), some (.p (.int (n : Int))), some (.p (.int most)), some (.p (tupI x)), some (.p (tupI y)), some (.p (.tup (tabV P))), none, none, none, none, none, none, none, none, none]) (S := S) (i := 8) (fun z => rfl)
    have sm := sumO_lst (ns := (shp P).map fun (k : Nat) => (k : Int)) (S := S)
    have se : ((shp P).map fun (k : Nat) => (k : Int)).sum = ((shp P).sum : Nat) := sum_ntI (shp P)
    rw [se] at sm
    unfold lw
    generalize ((shp P).map fun (k : Nat) => (k : Int)).map PV.int = L at *
    generalize (((shp P).sum : Nat) : Int) = s at *
    generalize tabV P = V at *
    generalize tupI x = X at *
    generalize tupI y = Y at *
    simp [ev_kLc hz2, wipeD, l, sm]
  obtain ⟨c6, e9, e10, e11, e12, e13, hc6, r8⟩ := law_turns D gP (some (.p (.int most))) x y 4 0 none none none none none hcP
  have s8 : (dFor (dRng1 (dCons (dC (.int 4)) dNil)) (.nm 9) L0_law) (lw D n (some (.p (.int most))) x y P none none none none none none none none) [cP] = .nx (lw D n (some (.p (.int most))) x y P none e9 e10 e11 e12 e13 none none) [c6] := by
    rw [ev_for]
    have rg := rg_len 4 (by omega)
    have it : (dRng1 (dCons (dC (.int 4)) dNil)) (lw D n (some (.p (.int most))) x y P none none none none none none none none) [cP] = .ok (rangeI 0 4, ckT) [cP] := by
      have rg : ∀ S : AH, kRng1 [.p (.int 4)] S = .ok (rangeI 0 4, ckT) S := rg
      simp [rg]
    rw [it, out_ok, ev_jFor, r8]
  obtain ⟨a, ea⟩ : ∃ a : Nat, x.sum = (a : Int) := ⟨x.sum.toNat, by have := hx.s1; omega⟩
  obtain ⟨b, eb⟩ : ∃ b : Nat, y.sum = (b : Int) := ⟨y.sum.toNat, by have := hy.s1; omega⟩
  have a1 : 1 ≤ a := by have := hx.s1; omega
  have a8 : a ≤ 8 := by have := hx.s2; omega
  have b1 : 1 ≤ b := by have := hy.s1; omega
  have b8 : b ≤ 8 := by have := hy.s2; omega
  have s9 : ∀ S, (dPar 10 11 (dCons (dApp sumO (dCons (dVar 4) dNil)) (dCons (dApp sumO (dCons (dVar 5) dNil)) dNil))) (lw D n (some (.p (.int most))) x y P none e9 e10 e11 e12 e13 none none) S = .nx (lw D n (some (.p (.int most))) x y P none e9 (some (.p (.int (a : Int)))) (some (.p (.int (b : Int)))) e12 e13 none none) S := fun S => by
    have sx : ∀ S : AH, sumO [.p (tupI x)] S = some (.p (.int (a : Int)), S) := fun S => by rw [← ea]; exact sumO_tup
    have sy : ∀ S : AH, sumO [.p (tupI y)] S = some (.p (.int (b : Int)), S) := fun S => by rw [← eb]; exact sumO_tup
    unfold lw
    generalize tabV P = V at *
    generalize tupI x = X at *
    generalize tupI y = Y at *
    simp [sx, sy]
  have s10 : ∀ S, (dSet 14 (dBin ixO (dCall d_law_pair (dCons (dCall d_law_heap_word (dCons (dTup (dCons (dVar 4) (dCons (dVar 5) dNil))) dNil)) dNil)) (dC (.int 0)))) (lw D n (some (.p (.int most))) x y P none e9 (some (.p (.int (a : Int)))) (some (.p (.int (b : Int)))) e12 e13 none none) S = .nx (lw D n (some (.p (.int most))) x y P none e9 (some (.p (.int (a : Int)))) (some (.p (.int (b : Int)))) e12 e13 (some (.p (.tup (tabV (pL (hw [x, y])))))) none) S := fun S => by
    unfold lw
    generalize tabV (pL (hw [x, y])) = V at *
    generalize tabV (pairL (hw [x, y])).2 = V2 at *
    generalize tupI (hw [x, y]) = W at *
    generalize tabV P = V3 at *
    generalize tupI x = X at *
    generalize tupI y = Y at *
    simp [lwd, po, i0]
  have toW : ∀ S, d_pair_of_heaps [.p (.tup (tabV (pL (hw [x, y])))), .p (.int (a : Int)), .p (.int (b : Int)), .p (.int (n : Int))] S = .ok (.p (.tup [tupI x, tupI y])) S := fun S => by
    rw [poh_ok gW a1 a8 b1 b8 S, poh_in b1 hx hy ea eb rfl]
  have pnW : Pn 2 (.tup [tupI x, tupI y]) := ⟨by simp, fun z hz => by
    rcases List.mem_cons.mp hz with rfl | hz
    · exact pn_ints (by have := hx.l; omega)
    · rw [List.mem_singleton.mp hz]; exact pn_ints (by have := hy.l; omega)⟩
  have plW : ∀ S, d_law_plain 8 [.p (.tup [tupI x, tupI y])] S = .ok (.p (.tup [tupI x, tupI y])) S := fun S => plain_pn pnW 8 (by decide) S
  have nW : ∀ S : AH, neO (.p (.tup [tupI x, tupI y])) (.p (.tup [tupI x, tupI y])) S = some (.p (.bl false), S) := fun S => neO_self (fit_two x y) (by decide)
  have s11 : ∀ S, (dIf (blOf (dBin neO (dCall (d_law_plain 8) (dCons (dCall d_pair_of_heaps (dCons (dVar 14) (dCons (dVar 10) (dCons (dVar 11) (dCons (dVar 2) dNil))))) dNil)) (dTup (dCons (dVar 4) (dCons (dVar 5) dNil))))) (dRet (dC (.bl false))) dPass) (lw D n (some (.p (.int most))) x y P none e9 (some (.p (.int (a : Int)))) (some (.p (.int (b : Int)))) e12 e13 (some (.p (.tup (tabV (pL (hw [x, y])))))) none) S = .nx (lw D n (some (.p (.int most))) x y P none e9 (some (.p (.int (a : Int)))) (some (.p (.int (b : Int)))) e12 e13 (some (.p (.tup (tabV (pL (hw [x, y])))))) none) S := fun S => by
    unfold lw
    generalize tabV (pL (hw [x, y])) = V at *
    generalize tabV P = V3 at *
    generalize tupI x = X at *
    generalize tupI y = Y at *
    simp [toW, plW, nW]
  obtain ⟨q13, g13⟩ : ∃ q13 : List PV, q13 = List.replicate 13 (.int ((n : Int) + 2)) := ⟨_, rfl⟩
  obtain ⟨r13, h13⟩ : ∃ r13 : List PV, r13 = List.replicate 13 (.int 1) := ⟨_, rfl⟩
  have wp := wrong_p n1 n3 gW a1 a8 b1 b8 q13 g13 r13 h13
  have s12 : ∀ (S : AH), ∃ z, (dFor (dSeqI (dVal (dLst (dCons (dC .non) (dCons (dC (.int 0)) (dCons (dC (.str "1")) (dCons (dBin addO (dVal (dAppF listF (dCons (dVar 14) dNil))) (dVal (dLst (dCons (dTup (dCons (dC (.int 1)) dNil)) dNil)))) (dCons (dBin addO (dVar 14) (dTup (dCons (dBin mulO1 (dTup (dCons (dBin addO (dVar 2) (dC (.int 2))) dNil)) (dC (.int 13))) dNil))) (dCons (dTup (dCons (dTup (dCons (dBin addO (dVar 2) (dC (.int 2))) dNil)) dNil)) (dCons (dTup (dCons (dTup (dCons (dC (.int 0)) dNil)) dNil)) (dCons (dTup (dCons (dTup (dCons (dC (.bl true)) dNil)) dNil)) (dCons (dTup (dCons (dTup (dCons (dC (.int 2)) (dCons (dC (.int 1)) dNil))) dNil)) (dCons (dTup (dCons (dTup (dCons (dC (.int 1)) dNil)) (dCons (dTup (dCons (dC (.int 1)) dNil)) dNil))) (dCons (dTup (dCons (dBin mulO1 (dTup (dCons (dC (.int 1)) dNil)) (dC (.int 13))) dNil)) dNil)))))))))))))) (.nm 15) L1_law) (lw D n (some (.p (.int most))) x y P none e9 (some (.p (.int (a : Int)))) (some (.p (.int (b : Int)))) e12 e13 (some (.p (.tup (tabV (pL (hw [x, y])))))) none) S = .nx (lw D n (some (.p (.int most))) x y P none e9 (some (.p (.int (a : Int)))) (some (.p (.int (b : Int)))) e12 e13 (some (.p (.tup (tabV (pL (hw [x, y])))))) z) S := fun S => by
    obtain ⟨z, r⟩ := loop_rf (fb := L1_law) (δ := lw D n (some (.p (.int most))) x y P none e9 (some (.p (.int (a : Int)))) (some (.p (.int (b : Int)))) e12 e13 (some (.p (.tup (tabV (pL (hw [x, y])))))) none) (S := S) [PV.non, .int 0, .str "1", .lst (tabV (pL (hw [x, y])) ++ [.tup [.int 1]]), .tup (tabV (pL (hw [x, y])) ++ [.tup q13]), .tup [.tup [.int ((n : Int) + 2)]], .tup [.tup [.int 0]], .tup [.tup [.bl true]], .tup [.tup [.int 2, .int 1]], .tup [.tup [.int 1], .tup [.int 1]], .tup [.tup r13]] none (fun v hv => by
      have rf := refuses_of (wp v hv)
      show L1_law [some (.p D), some (.c 0), some (.p (.int (n : Int))), some (.p (.int most)), some (.p (tupI x)), some (.p (tupI y)), some (.p (.tup (tabV P))), some (.p (.int ((shp P).sum : Nat))), none, e9, some (.p (.int (a : Int))), some (.p (.int (b : Int))), e12, e13, some (.p (.tup (tabV (pL (hw [x, y]))))), some (.p v)] S = .nx [some (.p D), some (.c 0), some (.p (.int (n : Int))), some (.p (.int most)), some (.p (tupI x)), some (.p (tupI y)), some (.p (.tup (tabV P))), some (.p (.int ((shp P).sum : Nat))), none, e9, some (.p (.int (a : Int))), some (.p (.int (b : Int))), e12, e13, some (.p (.tup (tabV (pL (hw [x, y]))))), some (.p v)] S
      clear hv
      generalize tabV (pL (hw [x, y])) = V at *
      generalize tabV P = V3 at *
      generalize tupI x = X at *
      generalize tupI y = Y at *
      simp [L1_law, rf])
    refine ⟨z, ?_⟩
    rw [ev_for]
    have it : (dSeqI (dVal (dLst (dCons (dC .non) (dCons (dC (.int 0)) (dCons (dC (.str "1")) (dCons (dBin addO (dVal (dAppF listF (dCons (dVar 14) dNil))) (dVal (dLst (dCons (dTup (dCons (dC (.int 1)) dNil)) dNil)))) (dCons (dBin addO (dVar 14) (dTup (dCons (dBin mulO1 (dTup (dCons (dBin addO (dVar 2) (dC (.int 2))) dNil)) (dC (.int 13))) dNil))) (dCons (dTup (dCons (dTup (dCons (dBin addO (dVar 2) (dC (.int 2))) dNil)) dNil)) (dCons (dTup (dCons (dTup (dCons (dC (.int 0)) dNil)) dNil)) (dCons (dTup (dCons (dTup (dCons (dC (.bl true)) dNil)) dNil)) (dCons (dTup (dCons (dTup (dCons (dC (.int 2)) (dCons (dC (.int 1)) dNil))) dNil)) (dCons (dTup (dCons (dTup (dCons (dC (.int 1)) dNil)) (dCons (dTup (dCons (dC (.int 1)) dNil)) dNil))) (dCons (dTup (dCons (dBin mulO1 (dTup (dCons (dC (.int 1)) dNil)) (dC (.int 13))) dNil)) dNil)))))))))))))) (lw D n (some (.p (.int most))) x y P none e9 (some (.p (.int (a : Int)))) (some (.p (.int (b : Int)))) e12 e13 (some (.p (.tup (tabV (pL (hw [x, y])))))) none) S = .ok (dit [PV.non, .int 0, .str "1", .lst (tabV (pL (hw [x, y])) ++ [.tup [.int 1]]), .tup (tabV (pL (hw [x, y])) ++ [.tup q13]), .tup [.tup [.int ((n : Int) + 2)]], .tup [.tup [.int 0]], .tup [.tup [.bl true]], .tup [.tup [.int 2, .int 1]], .tup [.tup [.int 1], .tup [.int 1]], .tup [.tup r13]], ckT) S := by
      have ad1 : ∀ S : AH, addO (.p (.lst (tabV (pL (hw [x, y]))))) (.p (.lst [.tup [.int 1]])) S = some (.p (.lst (tabV (pL (hw [x, y])) ++ [.tup [.int 1]])), S) := fun S => addO_lst (by rw [tabV_len]; have := gW.l; simp; omega)
      have ad2 : ∀ S : AH, addO (.p (.tup (tabV (pL (hw [x, y]))))) (.p (.tup [.tup q13])) S = some (.p (.tup (tabV (pL (hw [x, y])) ++ [.tup q13])), S) := fun S => addO_tup (by rw [tabV_len]; have := gW.l; simp; omega)
      have m1 := rep13 (.int ((n : Int) + 2))
      have m2 := rep13 (.int 1)
      rw [← g13] at m1
      rw [← h13] at m2
      have lf : ∀ S : AH, kAppF listF [.p (.tup (tabV (pL (hw [x, y]))))] S = .ok (tabV (pL (hw [x, y]))) S := fun S => kAppF_some rfl
      unfold lw
      generalize (tabV (pL (hw [x, y])) ++ [.tup q13]) = V5 at *
      generalize (tabV (pL (hw [x, y])) ++ [.tup [.int 1]]) = V6 at *
      generalize tabV (pL (hw [x, y])) = V at *
      generalize tabV P = V3 at *
      generalize tupI x = X at *
      generalize tupI y = Y at *
      simp [ad1, ad2, m1, m2, lf]
    rw [it, out_ok, ev_jFor]
    exact r
  have s13 : ∀ (S : AH) z, ∃ z', (dFor (dSeqI (dVal (dLst (dCons (dC (.int 0)) (dCons (dC (.int 9)) (dCons (dUn negO (dC (.int 1))) (dCons (dC (.bl true)) (dCons (dC .non) (dCons (dC (.str "1")) (dCons (dTup (dCons (dC (.int 1)) dNil)) dNil)))))))))) (.nm 15) L2_law) (lw D n (some (.p (.int most))) x y P none e9 (some (.p (.int (a : Int)))) (some (.p (.int (b : Int)))) e12 e13 (some (.p (.tup (tabV (pL (hw [x, y])))))) z) S = .nx (lw D n (some (.p (.int most))) x y P none e9 (some (.p (.int (a : Int)))) (some (.p (.int (b : Int)))) e12 e13 (some (.p (.tup (tabV (pL (hw [x, y])))))) z') S := fun S z => by
    have br : ∀ v ∈ [PV.int 0, .int 9, .int (-1), .bl true, .non, .str "1", .tup [.int 1]], badR v := by
      intro v hv
      simp only [List.mem_cons, List.not_mem_nil, or_false] at hv
      rcases hv with rfl | rfl | rfl | rfl | rfl | rfl | rfl
      · exact br_0
      · exact br_9
      · exact br_m
      · exact br_t
      · exact br_n
      · exact br_s
      · exact br_u
    obtain ⟨z', r⟩ := loop_rf (fb := L2_law) (δ := lw D n (some (.p (.int most))) x y P none e9 (some (.p (.int (a : Int)))) (some (.p (.int (b : Int)))) e12 e13 (some (.p (.tup (tabV (pL (hw [x, y])))))) none) (S := S) [PV.int 0, .int 9, .int (-1), .bl true, .non, .str "1", .tup [.int 1]] z (fun v hv => by
      have rf := refuses_of (bad_a n1 n3 (br v hv) (.tup (tabV (pL (hw [x, y])))) (.int (b : Int)))
      have rf2 := refuses_of (bad_b n1 n3 (br v hv) a1 a8 (.tup (tabV (pL (hw [x, y])))))
      show L2_law [some (.p D), some (.c 0), some (.p (.int (n : Int))), some (.p (.int most)), some (.p (tupI x)), some (.p (tupI y)), some (.p (.tup (tabV P))), some (.p (.int ((shp P).sum : Nat))), none, e9, some (.p (.int (a : Int))), some (.p (.int (b : Int))), e12, e13, some (.p (.tup (tabV (pL (hw [x, y]))))), some (.p v)] S = .nx [some (.p D), some (.c 0), some (.p (.int (n : Int))), some (.p (.int most)), some (.p (tupI x)), some (.p (tupI y)), some (.p (.tup (tabV P))), some (.p (.int ((shp P).sum : Nat))), none, e9, some (.p (.int (a : Int))), some (.p (.int (b : Int))), e12, e13, some (.p (.tup (tabV (pL (hw [x, y]))))), some (.p v)] S
      clear hv
      generalize tabV (pL (hw [x, y])) = V at *
      generalize tabV P = V3 at *
      generalize tupI x = X at *
      generalize tupI y = Y at *
      simp [L2_law, rf, rf2])
    refine ⟨z', ?_⟩
    rw [ev_for]
    have it : (dSeqI (dVal (dLst (dCons (dC (.int 0)) (dCons (dC (.int 9)) (dCons (dUn negO (dC (.int 1))) (dCons (dC (.bl true)) (dCons (dC .non) (dCons (dC (.str "1")) (dCons (dTup (dCons (dC (.int 1)) dNil)) dNil)))))))))) (lw D n (some (.p (.int most))) x y P none e9 (some (.p (.int (a : Int)))) (some (.p (.int (b : Int)))) e12 e13 (some (.p (.tup (tabV (pL (hw [x, y])))))) z) S = .ok (dit [PV.int 0, .int 9, .int (-1), .bl true, .non, .str "1", .tup [.int 1]], ckT) S := by
      simp
    rw [it, out_ok, ev_jFor]
    exact r
  have s14 : ∀ (S : AH) z, ∃ z', (dFor (dSeqI (dVal (dLst (dCons (dC (.int 0)) (dCons (dC (.int 4)) (dCons (dUn negO (dC (.int 1))) (dCons (dC (.bl true)) (dCons (dC .non) (dCons (dC (.str "1")) dNil))))))))) (.nm 15) L3_law) (lw D n (some (.p (.int most))) x y P none e9 (some (.p (.int (a : Int)))) (some (.p (.int (b : Int)))) e12 e13 (some (.p (.tup (tabV (pL (hw [x, y])))))) z) S = .nx (lw D n (some (.p (.int most))) x y P none e9 (some (.p (.int (a : Int)))) (some (.p (.int (b : Int)))) e12 e13 (some (.p (.tup (tabV (pL (hw [x, y])))))) z') S := fun S z => by
    have bn : ∀ v ∈ [PV.int 0, .int 4, .int (-1), .bl true, .non, .str "1"], badN v := by
      intro v hv
      simp only [List.mem_cons, List.not_mem_nil, or_false] at hv
      rcases hv with rfl | rfl | rfl | rfl | rfl | rfl
      · exact bn_0
      · exact bn_4
      · exact bn_m
      · exact bn_t
      · exact bn_n
      · exact bn_s
    obtain ⟨z', r⟩ := loop_rf (fb := L3_law) (δ := lw D n (some (.p (.int most))) x y P none e9 (some (.p (.int (a : Int)))) (some (.p (.int (b : Int)))) e12 e13 (some (.p (.tup (tabV (pL (hw [x, y])))))) none) (S := S) [PV.int 0, .int 4, .int (-1), .bl true, .non, .str "1"] z (fun v hv => by
      have rf := refuses_of (bn v hv (.tup [.tup [.int 1]]) (.int 1) (.int 1))
      show L3_law [some (.p D), some (.c 0), some (.p (.int (n : Int))), some (.p (.int most)), some (.p (tupI x)), some (.p (tupI y)), some (.p (.tup (tabV P))), some (.p (.int ((shp P).sum : Nat))), none, e9, some (.p (.int (a : Int))), some (.p (.int (b : Int))), e12, e13, some (.p (.tup (tabV (pL (hw [x, y]))))), some (.p v)] S = .nx [some (.p D), some (.c 0), some (.p (.int (n : Int))), some (.p (.int most)), some (.p (tupI x)), some (.p (tupI y)), some (.p (.tup (tabV P))), some (.p (.int ((shp P).sum : Nat))), none, e9, some (.p (.int (a : Int))), some (.p (.int (b : Int))), e12, e13, some (.p (.tup (tabV (pL (hw [x, y]))))), some (.p v)] S
      clear hv
      generalize tabV (pL (hw [x, y])) = V at *
      generalize tabV P = V3 at *
      generalize tupI x = X at *
      generalize tupI y = Y at *
      simp [L3_law, rf])
    refine ⟨z', ?_⟩
    rw [ev_for]
    have it : (dSeqI (dVal (dLst (dCons (dC (.int 0)) (dCons (dC (.int 4)) (dCons (dUn negO (dC (.int 1))) (dCons (dC (.bl true)) (dCons (dC .non) (dCons (dC (.str "1")) dNil))))))))) (lw D n (some (.p (.int most))) x y P none e9 (some (.p (.int (a : Int)))) (some (.p (.int (b : Int)))) e12 e13 (some (.p (.tup (tabV (pL (hw [x, y])))))) z) S = .ok (dit [PV.int 0, .int 4, .int (-1), .bl true, .non, .str "1"], ckT) S := by
      simp
    rw [it, out_ok, ev_jFor]
    exact r
  have g0 : Gp n [] := gp_of (w := []) n1 n3 (fun z hz => by cases hz) (by simp)
  have e0 : ∀ S, d_pair_of_heaps [.p (.tup []), .p (.int 1), .p (.int 1), .p (.int (n : Int))] S = .ok (.p .non) S := fun S => by
    have := poh_ok g0 (a := 1) (b := 1) (by omega) (by omega) (by omega) (by omega) S
    have nf : poH n [] 1 1 = none := by
      unfold poH
      rw [if_neg]
      rintro ⟨-, h, -⟩
      simp [rl, rowAt] at h
    rw [nf] at this
    exact this
  have p0 : ∀ S, d_law_plain 8 [.p .non] S = .ok (.p .non) S := fun S => plain_pn (n := 1) pn_non 8 (by decide) S
  obtain ⟨z1, r12⟩ := s12 [c6]
  obtain ⟨z2, r13'⟩ := s13 [c6] z1
  obtain ⟨z3, r14⟩ := s14 [c6] z2
  refine ⟨[], (dDef_ap rfl).trans ?_⟩
  show gcK [] false (b_law_ [some (.p D), none, none, none, none, none, none, none, none, none, none, none, none, none, none, none] []) = _
  have body : b_law_ [some (.p D), none, none, none, none, none, none, none, none, none, none, none, none, none, none, none] [] = .rt (.p (.bl true)) [c6] := by
    unfold b_law_
    refine sq_step (δ1 := [some (.p D), some (.c 0), none, none, none, none, none, none, none, none, none, none, none, none, none, none]) (S1 := [c0]) (by simp [t0]) ?_
    refine sq_step (δ1 := [some (.p D), some (.c 0), some (.p (.int (n : Int))), none, none, none, none, none, none, none, none, none, none, none, none, none]) (S1 := [c1]) (by simp [t1, hnn]) ?_
    refine sq_step (δ1 := [some (.p D), some (.c 0), some (.p (.int (n : Int))), some (.p (.int most)), none, none, none, none, none, none, none, none, none, none, none, none]) (S1 := [c1]) (by simp [e3]) ?_
    refine sq_step (δ1 := [some (.p D), some (.c 0), some (.p (.int (n : Int))), some (.p (.int most)), some (.p (tupI x)), some (.p (tupI y)), none, none, none, none, none, none, none, none, none, none]) (S1 := [c3]) (by
      generalize tupI x = X at *
      generalize tupI y = Y at *
      simp [hm6, t4, t5]) ?_
    refine sq_step (s5 _) (sq_step s6 (sq_step (s7 _) (sq_step s8 (sq_step (s9 _) (sq_step (s10 _) (sq_step (s11 _) (sq_step r12 (sq_step r13' (sq_step r14 ?_)))))))))
    unfold lw
    generalize tabV (pL (hw [x, y])) = V at *
    generalize tabV P = V3 at *
    generalize tupI x = X at *
    generalize tupI y = Y at *
    simp [e0, p0]
  rw [body, gc_rt (by simp)]
  simp
end DL
namespace DL
open PySem PySem.Spec PyProof.Rows L2
theorem law_mk {l : PySem.W.OpenLaw} {w : World} {K : PySem.W.Frag} {mg : Str → Option Value} {fa : Addr} (T : Txt l.prog K mg) (hfa : mg "law" = some (.ref fa)) (bl : ∀ (s : Shared) (v : Value), BindsTo s T.d_law ⟨[v], []⟩ [("script", v)]) :
    ∃ fd : FuncData, (∀ (s : Shared) (v : Value), BindsTo s fd ⟨[v], []⟩ [("script", v)]) ∧ ∀ base : Heap, FnOk l.prog w K mg base (L2.CX l.prog w) 11 fa fd ["script"] (spLawD K) := by
  have e := hfa.symm.trans T.m_law
  cases e
  exact ⟨T.d_law, bl, fun base => (ok_law T).imp fun vs H Q E h => law_end law_true h⟩
end DL
open PySem PySem.W PyProof.Rows
set_option maxRecDepth 100000 in
set_option maxHeartbeats 0 in
theorem PySem.Challenge.cw_carrierroads_k17_whole_pairs_of_heaps_holds : PySem.Challenge.rw_carrierroads_k17_whole_pairs_of_heaps.Holds := by
  w_on; o_law; k_head; (case hw => w_witness2)
  k_fill
  refine DL.walkD (l := PySem.Challenge.rw_carrierroads_k17_whole_pairs_of_heaps) (k := 11) rfl rfl ⟨rfl, by decide, by decide⟩ (fun w h Y => PySem.W.kIn_of Y) ?F
  case F =>
    intro w mg fa h KX G hmg
    refine' DL.law_mk (DL.txt_mk KX G ?a1_is_integer ?l1_is_integer ?c1_is_integer ?k1_is_integer ?a1_counted ?l1_counted ?c1_counted ?k1_counted ?a1_has_rows ?l1_has_rows ?c1_has_rows ?k1_has_rows ?a1_ascends ?l1_ascends ?c1_ascends ?k1_ascends ?a1_is_tableau ?l1_is_tableau ?c1_is_tableau ?k1_is_tableau ?a1_shape_of ?l1_shape_of ?c1_shape_of ?k1_shape_of ?a1_without_box ?l1_without_box ?c1_without_box ?k1_without_box ?a1_taken ?l1_taken ?c1_taken ?k1_taken ?a1_pair_of_heaps ?l1_pair_of_heaps ?c1_pair_of_heaps ?k1_pair_of_heaps ?a1_law_state ?l1_law_state ?c1_law_state ?k1_law_state ?a1_law_take ?l1_law_take ?c1_law_take ?k1_law_take ?a1_law_plain ?l1_law_plain ?c1_law_plain ?k1_law_plain ?a1_law_word ?l1_law_word ?c1_law_word ?k1_law_word ?a1_law_frozen ?l1_law_frozen ?c1_law_frozen ?k1_law_frozen ?a1_law_bump ?l1_law_bump ?c1_law_bump ?k1_law_bump ?a1_law_pair ?l1_law_pair ?c1_law_pair ?k1_law_pair ?a1_law_heap ?l1_law_heap ?c1_law_heap ?k1_law_heap ?a1_law_letters ?l1_law_letters ?c1_law_letters ?k1_law_letters ?a1_law_heap_word ?l1_law_heap_word ?c1_law_heap_word ?k1_law_heap_word ?a1_law_refuses ?l1_law_refuses ?c1_law_refuses ?k1_law_refuses ?a1_law_all_heaps ?l1_law_all_heaps ?c1_law_all_heaps ?k1_law_all_heaps ?a1_law_heap_of ?l1_law_heap_of ?c1_law_heap_of ?k1_law_heap_of ?a1_law_content ?l1_law_content ?c1_law_content ?k1_law_content ?a1_law_walked ?l1_law_walked ?c1_law_walked ?k1_law_walked ?a1_law ?l1_law ?c1_law ?k1_law ?z1_abs ?z1_bool ?z1_int ?z1_isinstance ?z1_len ?z1_list ?z1_max ?z1_min ?z1_range ?z1_str ?z1_sum ?z1_tuple ?c2_MOST_COLOUR ?c2_MOST_LENGTH ?c2_MOST_LETTER ?c2_MOST_ROOM ?e1_Malformed ?e2_Malformed ?e3_Malformed ?e4_Malformed ?e5_Malformed ?e6_Malformed ?e7_Malformed) hmg (fun s v => .of_eq rfl)
    (case a1_is_integer => k_is)
    (case l1_is_integer => k_is)
    (case c1_is_integer => k_is)
    (case k1_is_integer => k_is)
    (case a1_counted => k_is)
    (case l1_counted => k_is)
    (case c1_counted => k_is)
    (case k1_counted => k_is)
    (case a1_has_rows => k_is)
    (case l1_has_rows => k_is)
    (case c1_has_rows => k_is)
    (case k1_has_rows => k_is)
    (case a1_ascends => k_is)
    (case l1_ascends => k_is)
    (case c1_ascends => k_is)
    (case k1_ascends => k_is)
    (case a1_is_tableau => k_is)
    (case l1_is_tableau => k_is)
    (case c1_is_tableau => k_is)
    (case k1_is_tableau => k_is)
    (case a1_shape_of => k_is)
    (case l1_shape_of => k_is)
    (case c1_shape_of => k_is)
    (case k1_shape_of => k_is)
    (case a1_without_box => k_is)
    (case l1_without_box => k_is)
    (case c1_without_box => k_is)
    (case k1_without_box => k_is)
    (case a1_taken => k_is)
    (case l1_taken => k_is)
    (case c1_taken => k_is)
    (case k1_taken => k_is)
    (case a1_pair_of_heaps => k_is)
    (case l1_pair_of_heaps => k_is)
    (case c1_pair_of_heaps => k_is)
    (case k1_pair_of_heaps => k_is)
    (case a1_law_state => k_is)
    (case l1_law_state => k_is)
    (case c1_law_state => k_is)
    (case k1_law_state => k_is)
    (case a1_law_take => k_is)
    (case l1_law_take => k_is)
    (case c1_law_take => k_is)
    (case k1_law_take => k_is)
    (case a1_law_plain => k_is)
    (case l1_law_plain => k_is)
    (case c1_law_plain => k_is)
    (case k1_law_plain => k_is)
    (case a1_law_word => k_is)
    (case l1_law_word => k_is)
    (case c1_law_word => k_is)
    (case k1_law_word => k_is)
    (case a1_law_frozen => k_is)
    (case l1_law_frozen => k_is)
    (case c1_law_frozen => k_is)
    (case k1_law_frozen => k_is)
    (case a1_law_bump => k_is)
    (case l1_law_bump => k_is)
    (case c1_law_bump => k_is)
    (case k1_law_bump => k_is)
    (case a1_law_pair => k_is)
    (case l1_law_pair => k_is)
    (case c1_law_pair => k_is)
    (case k1_law_pair => k_is)
    (case a1_law_heap => k_is)
    (case l1_law_heap => k_is)
    (case c1_law_heap => k_is)
    (case k1_law_heap => k_is)
    (case a1_law_letters => k_is)
    (case l1_law_letters => k_is)
    (case c1_law_letters => k_is)
    (case k1_law_letters => k_is)
    (case a1_law_heap_word => k_is)
    (case l1_law_heap_word => k_is)
    (case c1_law_heap_word => k_is)
    (case k1_law_heap_word => k_is)
    (case a1_law_refuses => k_is)
    (case l1_law_refuses => k_is)
    (case c1_law_refuses => k_is)
    (case k1_law_refuses => k_is)
    (case a1_law_all_heaps => k_is)
    (case l1_law_all_heaps => k_is)
    (case c1_law_all_heaps => k_is)
    (case k1_law_all_heaps => k_is)
    (case a1_law_heap_of => k_is)
    (case l1_law_heap_of => k_is)
    (case c1_law_heap_of => k_is)
    (case k1_law_heap_of => k_is)
    (case a1_law_content => k_is)
    (case l1_law_content => k_is)
    (case c1_law_content => k_is)
    (case k1_law_content => k_is)
    (case a1_law_walked => k_is)
    (case l1_law_walked => k_is)
    (case c1_law_walked => k_is)
    (case k1_law_walked => k_is)
    (case a1_law => k_is)
    (case l1_law => k_is)
    (case c1_law => k_is)
    (case k1_law => k_is)
    (case z1_abs => k_is)
    (case z1_bool => k_is)
    (case z1_int => k_is)
    (case z1_isinstance => k_is)
    (case z1_len => k_is)
    (case z1_list => k_is)
    (case z1_max => k_is)
    (case z1_min => k_is)
    (case z1_range => k_is)
    (case z1_str => k_is)
    (case z1_sum => k_is)
    (case z1_tuple => k_is)
    (case c2_MOST_COLOUR => k_is)
    (case c2_MOST_LENGTH => k_is)
    (case c2_MOST_LETTER => k_is)
    (case c2_MOST_ROOM => k_is)
    (case e1_Malformed => k_is)
    (case e2_Malformed => k_exc)
    (case e3_Malformed => k_is)
    (case e4_Malformed => k_is)
    (case e5_Malformed => k_is)
    (case e6_Malformed => k_is)
    (case e7_Malformed => k_is)
