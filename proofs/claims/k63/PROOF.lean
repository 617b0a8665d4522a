import PyProof.Rows.All
import Wide.All
import OpenK.AllK
import Wide.FinOn
import HandS.TupAny
import HandS.TupMul
import HandS.Conv
import HandS.SetFor
import HandS.DictTup
import HandS.ForMost
import HandS.Exc
import HandS.TryOnly
import HandS.ExcOwn
import HandS.WordsExc
import HandS.IsInst
import HandS.Wide
import HandS.SortInts
import HandS.Style
import HandS.Flow
import HandS.Zip
import HandS.Deep
import HandS.Nested
import HandS.NestedK
import HandS.TryMany
import HandS.ExcSuper
import HandS.ExcField
import HandS.SetKeys
import HandS.TupSets
import KE.KTupSum
import KE.DataMinMax
import KE.KNestM
import PyProof.Rows.RuleB_bool
import PyProof.Rows.RuleC_int
import KE.KExcSuper
import KE.RegKSuper
import KE.KExcLine
import HandS.ExcInit
import HandS.Strs
import KE.KDictPairs
import HandS.Dict
import HandS.EndOwn
import KE.DatumOrd
import HandS.SortRule
import PySem.Challenge.RW_carrierroads_k63_angles_of_rings
set_option Elab.async false
set_option linter.all false
set_option maxRecDepth 100000
set_option maxHeartbeats 8000000
/-! D0: tuples that the program makes, known whole (so that it is known that they have no dict of their own). -/
namespace DL
open PySem PySem.Spec PyProof.Rows L2
/-- what a rule that makes a tuple asks for -/
def NewT (H : Hp) (Q : VK) (xs : List V) : Prop := ∀ (p : Addr) (o : Obj), H p = none → o.dict = none → Q (.ref p) (upd H p (.frz o (.tup xs)))
section
variable {X : Cx} {pins : List (Addr × Obj)} {σ : L2.St} {H : Hp} {s : Shared}
theorem lay_tup {xs : List V} {its : List Value} {Q : VK} (I : Inv X pins σ H s) (z : xs.length ≤ sizeLine) (r : Vals xs its) (q : NewT H Q xs) :
    EP X pins σ Q (.ref s.heap.objs.size) { s with heap := s.heap.push { cls := .type "tuple", data := .seq its.toArray } } := by
  have J := I.laid (t' := s.toks) (o := .frz { cls := .type "tuple", data := .seq its.toArray } (.tup xs)) (h' := s.heap.push { cls := .type "tuple", data := .seq its.toArray }) (fun _ _ w => Heap.get?_push_of_some _ w) (Nat.le_refl _)
    ⟨Heap.get?_push_size _ rfl, z, its, r, IsTup.new _ _⟩
  exact ⟨.ref s.heap.objs.size, _, J, rfl, q _ _ (I.hok.fresh (Nat.le_refl _)) rfl⟩
/-- (a, b, ..) -/
theorem pe_tupZ {es : List Expr} {x1 : Nat} {pos : Pos} {t : TA} (h : PA X es t) : PE X (.Tuple es x1 pos) (fun σ H Q => t σ H fun xs H1 => xs.length ≤ sizeLine ∧ NewT H1 Q xs) := by
  constructor
  intro pins s σ H Q I hq
  exact wpAny_Tuple_spliced (thn (h.run pos pins s σ H _ I hq) fun us s1 ⟨xs, H1, I1, r, z, q⟩ => ⟨by have := r.length; omega, lay_tup I1 z r q⟩)
/-- tuple(t) -/
theorem call_tupZ : CallR X (.type "tuple") (fun xs H Q => ∃ p ys, xs = [.ref p] ∧ ((SqL X.K H p ys ∧ NewT H Q ys) ∨ (SqT X.K H p ys ∧ Q (.ref p) H))) := by
  rintro pins s σ H xs us Q I r ⟨p, ys, rfl, h⟩
  obtain ⟨u, rfl, rx⟩ := vals1 r
  cases rx
  rcases h with ⟨hq, q⟩ | ⟨hq, q⟩
  · obtain ⟨its, rs, pl, hz⟩ := I.list hq
    have le := rs.length
    refine call_tuple_list pl.isList (fun h' kp => ?_) (by simp only [List.size_toArray]; omega)
    have J : Inv X pins σ H { s with heap := h' } := I.kept (t' := s.toks) kp
    exact lay_tup J hz rs q
  · obtain ⟨its, _, pl, _⟩ := I.tuple hq
    exact call_tuple_same pl (show EP X pins σ Q _ _ from ⟨V.ref p, H, I, rfl, q⟩)
/-- t[lo:hi]; the whole of it is t itself -/
theorem sl_tupZ : SlR X (fun x lo hi H Q => ∃ a xs, x = .ref a ∧ SqT X.K H a xs ∧ ((HT.sIx xs.length 0 lo = 0 ∧ HT.sIx xs.length xs.length hi = xs.length) → Q (.ref a) H) ∧ (¬ (HT.sIx xs.length 0 lo = 0 ∧ HT.sIx xs.length xs.length hi = xs.length) → NewT H Q (cutV xs lo hi))) := by
  rintro pins s σ H x v vl vu lo hi sl Q I rx hs pl pu ⟨a, xs, rfl, hx, q1, q2⟩
  by_cases hw : HT.sIx xs.length 0 lo = 0 ∧ HT.sIx xs.length xs.length hi = xs.length
  · exact sl_tupA pins s σ H _ v vl vu lo hi sl Q I rx hs pl pu ⟨a, xs, rfl, hx, q1, fun e => absurd hw e⟩
  cases rx
  obtain ⟨its, r, ht, hz⟩ := I.tuple hx
  have le : its.toArray.size = xs.length := by rw [List.size_toArray]; exact r.length.symm
  refine ⟨"tuple", _, PyProof.Rows.slot_tuple_getitem.lookup, ht.typeIs, HT.getItem_tuple_cut ht hs pl pu (by rwa [le]) ?_ (by rwa [le])⟩
  have w := lay_tup (its := (its.drop (HT.sIx xs.length 0 lo)).take (HT.sIx xs.length xs.length hi - HT.sIx xs.length 0 lo)) I (Nat.le_trans (cutV_length xs lo hi) hz) ((r.drop _).take _) (q2 hw)
  rw [le]
  exact w
/-- t + u -/
theorem op_catZ : OpR X (binaryOp .Add) (fun x y H Q => ∃ a b xs ys, x = .ref a ∧ y = .ref b ∧ SqT X.K H a xs ∧ SqT X.K H b ys ∧ xs.length + ys.length ≤ sizeLine ∧
    (xs = [] → Q (.ref b) H) ∧ (xs ≠ [] → ys = [] → Q (.ref a) H) ∧ (xs ≠ [] → ys ≠ [] → NewT H Q (xs ++ ys))) := by
  rintro pins s σ H x y v u Q I rx ry ⟨a, b, xs, ys, rfl, rfl, ha, hb, hz, q0, q1, q2⟩
  by_cases c : xs = [] ∨ ys = []
  · refine op_catA pins s σ H _ _ v u Q I rx ry ⟨a, b, xs, ys, rfl, rfl, ha, hb, hz, q0, q1, fun e1 e2 => ?_⟩
    rcases c with c | c
    · exact absurd c e1
    · exact absurd c e2
  cases rx
  cases ry
  obtain ⟨i1, r1, p1, _⟩ := I.tuple ha
  obtain ⟨i2, r2, p2, _⟩ := I.tuple hb
  have c1 : xs ≠ [] := fun e => c (.inl e)
  have c2 : ys ≠ [] := fun e => c (.inr e)
  have z2 : i1.length + i2.length ≤ sizeLine := by rw [← r1.length, ← r2.length]; exact hz
  refine HT.cat_tup p1 p2 (fun e => c1 (r1.nil_iff.mp e)) (fun e => absurd (r2.nil_iff.mp e) c2) (fun _ => ?_) z2
  exact lay_tup I (by rw [List.length_append]; exact hz) (r1.append r2) (q2 c1 c2)
/-- t * k -/
theorem op_repZ : OpR X (binaryOp .Mult) (fun x y H Q => ∃ l k xs, x = .ref l ∧ y = .int k ∧ SqT X.K H l xs ∧ xs ≠ [] ∧ 2 ≤ k ∧ k ≤ 1000 ∧ xs.length ≤ 1000 ∧ NewT H Q (List.replicate k.toNat xs).flatten) := by
  rintro pins s σ H x y v u Q I rx ry ⟨l, k, xs, rfl, rfl, hT, hne, h1, h2, hz, q⟩
  cases rx
  obtain ⟨t, rfl⟩ := ry
  obtain ⟨its, r, ⟨⟨cls, dd, data, sl⟩, ho, hc, n, hd⟩, hs⟩ := I.tuple hT
  simp only at hc hd
  subst hc hd
  have le : its.length = xs.length := r.length.symm
  have hi : its.toArray.isEmpty = false := by
    cases its with
    | nil => exact absurd (List.eq_nil_of_length_eq_zero (by simpa using le.symm)) hne
    | cons a b => rfl
  have sz : its.toArray.size = xs.length := by rw [List.size_toArray, le]
  have pm : ((xs.length : Nat) : Int) * k ≤ 1000000 := by
    have w : ((xs.length : Nat) : Int) * k ≤ 1000 * k := Int.mul_le_mul_of_nonneg_right (by omega) (by omega)
    omega
  have pn : k.toNat * xs.length ≤ 1000000 := by
    have w : k.toNat * xs.length ≤ 1000 * 1000 := Nat.mul_le_mul (by omega) hz
    omega
  have k1 : (decide (k < -(2 ^ 63)) || decide (k ≥ 2 ^ 63)) = false := by simp; omega
  have k2 : (its.toArray.isEmpty || k == 1) = false := by rw [hi]; simp; omega
  have k3 : (decide (k ≤ 0) || its.toArray.isEmpty) = false := by rw [hi]; simp; omega
  have k4 : Builtin.Tuple.tupleTooMany (((its.toArray.size : Nat) : Int) * k) = false := by
    unfold Builtin.Tuple.tupleTooMany
    rw [sz, sizeLine_eq]
    exact decide_eq_false (by omega)
  have k5 : (List.replicate k.toNat its).flatten.length ≤ sizeLine := by
    rw [PyProof.Rows.lm_len_rep_flat, le, sizeLine_eq]
    omega
  have m := tuple_mulW l its.toArray n dd sl k t k1 k2 k3 (by rw [sz]; omega) k4 (by rw [size_rep, List.size_toArray]; exact k5)
  have fin : EP X pins σ Q (.ref s.heap.objs.size) { s with heap := s.heap.push { cls := .type "tuple", data := .seq (List.replicate k.toNat its).flatten.toArray } } :=
    lay_tup I (by rw [PyProof.Rows.lm_len_rep_flat, sizeLine_eq]; omega) (r.rep k.toNat) q
  rw [← size_rep] at fin
  exact wpAny_binaryOp_repeat_ref (T := "tuple") (U := "int") (by decide) ⟨_, ho, rfl⟩ (fun w => typeIs_int w k t) noFill_tuple_mul F.fills_int_mul F.slot_int_rmul repeat_tuple F.slot_int_index.lookup
    (call_meets F.slot_int_rmul (typeIs_int s k t) F.entry_int_rmul (F.args_int_rmul_2 _ _) (int_rmul_tuple k t l its.toArray n dd sl) ⟨ho, rfl, ⟨_, ho, rfl⟩,
      call_meets F.slot_tuple_mul ⟨_, ho, rfl⟩ F.entry_tuple_mul (F.args_tuple_mul_2 _ _) m ⟨ho, fin⟩⟩)
end
end DL
namespace DL
open PySem PySem.Spec PyProof.Rows L2

/-! ### data -/
/-- a value that never changes -/
inductive PV where
  | non | bl (b : Bool) | int (i : Int) | str (x : Str) | tup (xs : List PV) | lst (xs : List PV) | fro (xs : List PV) | glob (n : Str)
/-- what may change -/
inductive Cell where
  | lst (xs : List PV)
  | nst (ks : List Nat)
  | dct (kvs : List (Int × PV))
  | fn
  | tab (x : Str)
abbrev AH := List Cell
/-- what a name holds -/
inductive DV where
  | p (v : PV) | c (n : Nat)
abbrev Sig := List (Option DV)
inductive Res (α : Type) where
  | ok (a : α) (S : AH) | exc (c : Str) (p : List (Str × PV)) (S : AH) | bad
def Res.bind {α β : Type} (r : Res α) (k : α → AH → Res β) : Res β := match r with
  | .ok a S => k a S
  | .exc c p S => .exc c p S
  | .bad => .bad
@[simp] theorem Res.bind_ok {α β : Type} (a : α) (S : AH) (k : α → AH → Res β) : (Res.ok a S).bind k = k a S := rfl
@[simp] theorem Res.bind_exc {α β : Type} (c : Str) (p : List (Str × PV)) (S : AH) (k : α → AH → Res β) : (Res.exc c p S : Res α).bind k = .exc c p S := rfl
@[simp] theorem Res.bind_bad {α β : Type} (k : α → AH → Res β) : (Res.bad : Res α).bind k = .bad := rfl
inductive Out where
  | nx (δ : Sig) (S : AH) | rt (d : DV) (S : AH) | rtT (ds : List DV) (S : AH) | bk (δ : Sig) (S : AH) | ct (δ : Sig) (S : AH) | exc (c : Str) (p : List (Str × PV)) (δ : Sig) (S : AH) | bad

/-! ### the relation -/
/-- the written part, the module's names -/
structure Wd where
  K : PySem.W.Frag
  mg : Str → Option Value
/-- where the cells lie; what nobody sees -/
structure As where
  cells : List Addr
  hid : Addr → Prop
def As.off (as : As) (a : Addr) : Prop := a ∉ as.cells ∧ ¬ as.hid a
def As.add (as : As) (p : Addr) : As := ⟨as.cells ++ [p], as.hid⟩
def As.hide (as : As) (p : Addr) : As := ⟨as.cells, fun a => as.hid a ∨ a = p⟩
def KT (K : PySem.W.Frag) (a : Addr) (xs : List V) : Prop :=
  ∃ (o : Obj) (its : Array Value) (n : Nat), K.lookup a = some o ∧ o.cls = .type "tuple" ∧ o.dict = none ∧ o.data = .seq its n ∧ its.size ≤ sizeLine ∧ Vals xs its.toList
def RdT (K : PySem.W.Frag) (as : As) (H : Hp) (a : Addr) (xs : List V) : Prop := xs.length ≤ sizeLine ∧ (((∃ o : Obj, o.dict = none ∧ H a = some (.frz o (.tup xs))) ∧ as.off a) ∨ KT K a xs)
def RdL (as : As) (H : Hp) (a : Addr) (xs : List V) : Prop := xs.length ≤ sizeLine ∧ H a = some (.lst xs) ∧ as.off a
def KL (K : PySem.W.Frag) (a : Addr) (xs : List V) : Prop :=
  ∃ (o : Obj) (its : Array Value) (n : Nat), K.lookup a = some o ∧ o.cls = .type "list" ∧ o.dict = none ∧ o.data = .seq its n ∧ its.size ≤ sizeLine ∧ Vals xs its.toList
def RdF (K : PySem.W.Frag) (as : As) (H : Hp) (a : Addr) (xs : List V) : Prop := xs.length ≤ sizeLine ∧ (((∃ o, H a = some (.frz o (.lst xs))) ∧ as.off a) ∨ KL K a xs)
mutual
inductive PR (M : Wd) (as : As) (H : Hp) : V → PV → Prop
  | non : PR M as H .non .non
  | bl (b : Bool) : PR M as H (.bl b) (.bl b)
  | int (i : Int) : PR M as H (.int i) (.int i)
  | str (x : Str) : PR M as H (.str x) (.str x)
  | tup {a : Addr} {vs : List V} {ps : List PV} : RdT M.K as H a vs → PRs M as H vs ps → PR M as H (.ref a) (.tup ps)
  | lst {a : Addr} {vs : List V} {ps : List PV} : RdL as H a vs → PRs M as H vs ps → PR M as H (.ref a) (.lst ps)
  | fro {a : Addr} {vs : List V} {ps : List PV} : RdF M.K as H a vs → PRs M as H vs ps → PR M as H (.ref a) (.fro ps)
  | glob {v : V} {u : Value} {n : Str} : M.mg n = some u → RelV v u → PR M as H v (.glob n)
inductive PRs (M : Wd) (as : As) (H : Hp) : List V → List PV → Prop
  | nil : PRs M as H [] []
  | cons {v : V} {vs : List V} {p : PV} {ps : List PV} : PR M as H v p → PRs M as H vs ps → PRs M as H (v :: vs) (p :: ps)
end

/-- the later state -/
structure Ext (as : As) (H : Hp) (as' : As) (H' : Hp) : Prop where
  more : ∃ m, as'.cells = as.cells ++ m
  hids : as'.hid = as.hid
  keep : ∀ a o, H a = some o → as.off a → H' a = some o ∧ as'.off a
  hkeep : ∀ a o, as.hid a → H a = some o → H' a = some o
  exts : ∀ a g, H a = some (.ext g) → H' a = some (.ext g)
theorem Ext.refl (as : As) (H : Hp) : Ext as H as H := ⟨⟨[], by simp⟩, rfl, fun a o h n => ⟨h, n⟩, fun _ _ _ h => h, fun _ _ h => h⟩
theorem Ext.trans {as as1 as2 : As} {H H1 H2 : Hp} (x : Ext as H as1 H1) (y : Ext as1 H1 as2 H2) : Ext as H as2 H2 := by
  obtain ⟨m1, e1⟩ := x.more
  obtain ⟨m2, e2⟩ := y.more
  refine ⟨⟨m1 ++ m2, by rw [e2, e1, List.append_assoc]⟩, by rw [y.hids, x.hids], fun a o h n => ?_, fun a o hh h => ?_, fun a g h => y.exts a g (x.exts a g h)⟩
  · obtain ⟨h1, n1⟩ := x.keep a o h n
    exact y.keep a o h1 n1
  · exact y.hkeep a o (by rw [x.hids]; exact hh) (x.hkeep a o hh h)
theorem Ext.get {as as' : As} {H H' : Hp} (x : Ext as H as' H') {i : Nat} {a : Addr} (h : as.cells[i]? = some a) : as'.cells[i]? = some a := by
  obtain ⟨m, e⟩ := x.more
  rw [e, List.getElem?_append_left (List.getElem?_eq_some_iff.mp h).1]
  exact h
/-- the later state, whatever is hidden -/
structure Exw (as : As) (H : Hp) (as' : As) (H' : Hp) : Prop where
  more : ∃ m, as'.cells = as.cells ++ m
  keep : ∀ a o, H a = some o → as.off a → H' a = some o ∧ as'.off a
theorem Ext.w {as as' : As} {H H' : Hp} (x : Ext as H as' H') : Exw as H as' H' := ⟨x.more, x.keep⟩
instance {as as' : As} {H H' : Hp} : CoeOut (Ext as H as' H') (Exw as H as' H') := ⟨Ext.w⟩
theorem Exw.get {as as' : As} {H H' : Hp} (x : Exw as H as' H') {i : Nat} {a : Addr} (h : as.cells[i]? = some a) : as'.cells[i]? = some a := by
  obtain ⟨m, e⟩ := x.more
  rw [e, List.getElem?_append_left (List.getElem?_eq_some_iff.mp h).1]
  exact h
theorem Exw.trans {as as1 as2 : As} {H H1 H2 : Hp} (x : Exw as H as1 H1) (y : Exw as1 H1 as2 H2) : Exw as H as2 H2 := by
  obtain ⟨m1, e1⟩ := x.more
  obtain ⟨m2, e2⟩ := y.more
  refine ⟨⟨m1 ++ m2, by rw [e2, e1, List.append_assoc]⟩, fun a o h n => ?_⟩
  obtain ⟨h1, n1⟩ := x.keep a o h n
  exact y.keep a o h1 n1
section
variable {M : Wd} {as as' : As} {H H' : Hp}
theorem RdT.mono {K : PySem.W.Frag} {a : Addr} {xs : List V} (x : Exw as H as' H') (h : RdT K as H a xs) : RdT K as' H' a xs := by
  refine ⟨h.1, ?_⟩
  rcases h.2 with ⟨⟨o, d, e⟩, n⟩ | h
  · obtain ⟨e', n'⟩ := x.keep _ _ e n
    exact .inl ⟨⟨o, d, e'⟩, n'⟩
  · exact .inr h
theorem RdL.mono {a : Addr} {xs : List V} (x : Exw as H as' H') (h : RdL as H a xs) : RdL as' H' a xs := ⟨h.1, x.keep _ _ h.2.1 h.2.2⟩
theorem RdF.mono {K : PySem.W.Frag} {a : Addr} {xs : List V} (x : Exw as H as' H') (h : RdF K as H a xs) : RdF K as' H' a xs := by
  refine ⟨h.1, ?_⟩
  rcases h.2 with ⟨⟨o, e⟩, n⟩ | h
  · obtain ⟨e', n'⟩ := x.keep _ _ e n
    exact .inl ⟨⟨o, e'⟩, n'⟩
  · exact .inr h
mutual
theorem PR.mono (x : Exw as H as' H') : ∀ {v : V} {p : PV}, PR M as H v p → PR M as' H' v p
  | _, _, .non => .non
  | _, _, .bl b => .bl b
  | _, _, .int i => .int i
  | _, _, .str y => .str y
  | _, _, .tup h t => .tup (h.mono x) (PRs.mono x t)
  | _, _, .lst h t => .lst (h.mono x) (PRs.mono x t)
  | _, _, .fro h t => .fro (h.mono x) (PRs.mono x t)
  | _, _, .glob h r => .glob h r
theorem PRs.mono (x : Exw as H as' H') : ∀ {vs : List V} {ps : List PV}, PRs M as H vs ps → PRs M as' H' vs ps
  | _, _, .nil => .nil
  | _, _, .cons h t => .cons (PR.mono x h) (PRs.mono x t)
end
theorem PRs.length : ∀ {vs : List V} {ps : List PV}, PRs M as H vs ps → vs.length = ps.length
  | _, _, .nil => rfl
  | _, _, .cons _ t => congrArg (· + 1) (PRs.length t)
theorem PRs.get : ∀ {vs : List V} {ps : List PV} {i : Nat} {p : PV}, PRs M as H vs ps → ps[i]? = some p → ∃ v, vs[i]? = some v ∧ PR M as H v p
  | _, _, _, _, .nil, e => by simp at e
  | _, _, 0, _, .cons r _, e => by simp at e; subst e; exact ⟨_, rfl, r⟩
  | _, _, i + 1, p, .cons _ t, e => by
    obtain ⟨u, h1, h2⟩ := PRs.get (i := i) (p := p) t (by simpa using e)
    exact ⟨u, by simpa using h1, h2⟩
theorem PRs.getV : ∀ {vs : List V} {ps : List PV} {i : Nat} {v : V}, PRs M as H vs ps → vs[i]? = some v → ∃ p, ps[i]? = some p ∧ PR M as H v p
  | _, _, _, _, .nil, e => by simp at e
  | _, _, 0, _, .cons r _, e => by simp at e; subst e; exact ⟨_, rfl, r⟩
  | _, _, i + 1, v, .cons _ t, e => by
    obtain ⟨u, h1, h2⟩ := PRs.getV (i := i) (v := v) t (by simpa using e)
    exact ⟨u, by simpa using h1, h2⟩
theorem PRs.append : ∀ {vs ws : List V} {ps qs : List PV}, PRs M as H vs ps → PRs M as H ws qs → PRs M as H (vs ++ ws) (ps ++ qs)
  | _, _, _, _, .nil, s => s
  | _, _, _, _, .cons r t, s => .cons r (PRs.append t s)
theorem PRs.take : ∀ {vs : List V} {ps : List PV} (n : Nat), PRs M as H vs ps → PRs M as H (vs.take n) (ps.take n)
  | _, _, 0, _ => .nil
  | _, _, _ + 1, .nil => .nil
  | _, _, n + 1, .cons r t => .cons r (PRs.take n t)
theorem PRs.drop : ∀ {vs : List V} {ps : List PV} (n : Nat), PRs M as H vs ps → PRs M as H (vs.drop n) (ps.drop n)
  | _, _, 0, r => r
  | _, _, _ + 1, .nil => .nil
  | _, _, n + 1, .cons _ t => PRs.drop n t
theorem PRs.set {v : V} {p : PV} (r : PR M as H v p) : ∀ {vs : List V} {ps : List PV} (i : Nat), PRs M as H vs ps → PRs M as H (vs.set i v) (ps.set i p)
  | _, _, _, .nil => .nil
  | _, _, 0, .cons _ t => .cons r t
  | _, _, i + 1, .cons q t => .cons q (PRs.set r i t)
theorem PRs.reverse {vs : List V} {ps : List PV} (h : PRs M as H vs ps) : PRs M as H vs.reverse ps.reverse := by
  have go : ∀ (vs : List V) (ps : List PV), PRs M as H vs ps → PRs M as H vs.reverse ps.reverse := by
    intro vs
    induction vs with
    | nil => intro ps h; cases h; exact .nil
    | cons v vs ih =>
      intro ps h
      cases h with
      | cons r t => rw [List.reverse_cons, List.reverse_cons]; exact PRs.append (ih _ t) (.cons r .nil)
  exact go vs ps h
theorem PRs.dropLast {vs : List V} {ps : List PV} (h : PRs M as H vs ps) : PRs M as H vs.dropLast ps.dropLast := by
  rw [List.dropLast_eq_take, List.dropLast_eq_take, h.length]
  exact h.take _
theorem PRs.ints : ∀ {vs : List V} {ns : List Int}, PRs M as H vs (ns.map PV.int) → vs = ns.map V.int
  | vs, [], h => by cases h; rfl
  | vs, n :: ns, h => by
    cases h with
    | cons r t => cases r; rw [PRs.ints t]; rfl
theorem PRs.bls : ∀ {vs : List V} {ns : List Bool}, PRs M as H vs (ns.map PV.bl) → vs = ns.map V.bl
  | vs, [], h => by cases h; rfl
  | vs, n :: ns, h => by
    cases h with
    | cons r t => cases r; rw [PRs.bls t]; rfl
theorem PRs.of_ints : ∀ (ns : List Int), PRs M as H (ns.map V.int) (ns.map PV.int)
  | [] => .nil
  | n :: ns => .cons (.int n) (PRs.of_ints ns)
theorem RdT.sq {K : PySem.W.Frag} {a : Addr} {xs : List V} (h : RdT K as H a xs) : SqT K H a xs := by
  rcases h.2 with ⟨⟨o, _, e⟩, _⟩ | ⟨o, its, n, h1, h2, _, h4, h5, h6⟩
  · exact .inl (.inr ⟨o, e⟩)
  · exact .inr ⟨o, its, n, h1, h2, h4, h5, h6⟩
theorem RdL.sq {K : PySem.W.Frag} {a : Addr} {xs : List V} (h : RdL as H a xs) : SqL K H a xs := .of h.2.1
theorem RdF.sq {K : PySem.W.Frag} {a : Addr} {xs : List V} (h : RdF K as H a xs) : SqL K H a xs := by
  rcases h.2 with ⟨⟨o, e⟩, _⟩ | h
  · exact .inl (.inr ⟨o, e⟩)
  · exact .inr h
end

/-! ### the cells -/
/-- values that are cells -/
def KRs (as : As) (vs : List V) (ks : List Nat) : Prop := Paired (fun (v : V) (k : Nat) => ∃ b, as.cells[k]? = some b ∧ v = .ref b) vs ks
/-- a dict's entries -/
def dzip (kvs : List (Int × PV)) (vs : List V) : List (Key × V) := (kvs.map fun p => (Sum.inl p.1 : Key)).zip vs
/-- a is the table of code objects of the def x -/
def TabK (M : Wd) (x : Str) (a : Addr) : Prop := ∃ (f c : Addr) (o : Obj) (fd : FuncData), M.mg x = some (.ref f) ∧ M.K.lookup f = some o ∧ o.data = .func fd ∧ fd.code = .ref c ∧ PySem.W.codeHdIn M.K c a = true
theorem tabN_exts {H H' : Hp} {a : Addr} {nm : Nat → Nat → Str} (h : NdefX.TabN H a nm) (k : H' a = H a) (x : ∀ b g, H b = some (.ext g) → H' b = some (.ext g)) : NdefX.TabN H' a nm := by
  obtain ⟨ps, h1, h2, h3⟩ := h
  refine ⟨ps, by rw [k]; exact h1, h2, fun pos cv hc => ?_⟩
  obtain ⟨c, e1, e2⟩ := h3 pos cv hc
  exact ⟨c, e1, x c _ e2⟩
def CR (M : Wd) (as : As) (H : Hp) (a : Addr) : Cell → Prop
  | .lst ps => ∃ vs, vs.length ≤ sizeLine ∧ H a = some (.lst vs) ∧ PRs M as H vs ps
  | .nst ks => ∃ vs, vs.length ≤ sizeLine ∧ H a = some (.lst vs) ∧ KRs as vs ks
  | .dct kvs => ∃ vs, vs.length ≤ sizeLine ∧ H a = some (.dK (dzip kvs vs)) ∧ PRs M as H vs (kvs.map (·.2))
  | .fn => ∃ g : Heap → Prop, H a = some (.ext g)
  | .tab x => TabK M x a ∧ NdefX.TabN H a (fun _ _ => x ++ ".<locals>.visit")
theorem KRs.mono {as as' : As} {H H' : Hp} (x : Exw as H as' H') {vs : List V} {ks : List Nat} (h : KRs as vs ks) : KRs as' vs ks := Paired.mapP h fun _ _ ⟨b, e, r⟩ => ⟨b, x.get e, r⟩
structure SR (M : Wd) (as : As) (H : Hp) (S : AH) : Prop where
  len : as.cells.length = S.length
  nd : as.cells.Nodup
  apart : ∀ a ∈ as.cells, ¬ as.hid a
  hidd : ∀ a, as.hid a → ∃ o, H a = some o
  cell : ∀ (i : Nat) (a : Addr) (c : Cell), as.cells[i]? = some a → S[i]? = some c → CR M as H a c
def DVR (M : Wd) (as : As) (H : Hp) (v : V) : DV → Prop
  | .p x => PR M as H v x
  | .c n => ∃ a, as.cells[n]? = some a ∧ v = .ref a
abbrev DVRs (M : Wd) (as : As) (H : Hp) : List V → List DV → Prop := Paired (DVR M as H)
structure ER (M : Wd) (as : As) (H : Hp) (σ : L2.St) (δ : Sig) : Prop where
  len : σ.length = δ.length
  get : ∀ (i : Nat) (d : DV), δ[i]? = some (some d) → ∃ v, σ[i]? = some (some v) ∧ DVR M as H v d
section
variable {M : Wd} {as as' : As} {H H' : Hp} {S : AH} {σ : L2.St} {δ : Sig}
theorem DVR.mono (x : Exw as H as' H') {v : V} : ∀ {d : DV}, DVR M as H v d → DVR M as' H' v d
  | .p _, h => PR.mono x h
  | .c _, ⟨a, e, r⟩ => ⟨a, x.get e, r⟩
theorem DVRs.mono (x : Exw as H as' H') {vs : List V} {ds : List DV} (h : DVRs M as H vs ds) : DVRs M as' H' vs ds := Paired.mapP h fun _ _ => DVR.mono x
theorem ER.mono (x : Exw as H as' H') (h : ER M as H σ δ) : ER M as' H' σ δ := ⟨h.len, fun i d e => by
  obtain ⟨v, q, r⟩ := h.get i d e
  exact ⟨v, q, r.mono x⟩⟩
theorem ER.set (h : ER M as H σ δ) {v : V} {d : DV} (r : DVR M as H v d) (i : Nat) : ER M as H (σ.set i (some v)) (δ.set i (some d)) := by
  refine ⟨by rw [List.length_set, List.length_set]; exact h.len, fun j e q => ?_⟩
  by_cases hj : i = j
  · subst hj
    have hi : i < δ.length := by have := (List.getElem?_eq_some_iff.mp q).1; rw [List.length_set] at this; exact this
    rw [List.getElem?_set_self hi] at q
    cases q
    exact ⟨v, List.getElem?_set_self (by rw [h.len]; exact hi), r⟩
  · rw [List.getElem?_set_ne hj] at q ⊢
    exact h.get j e q
theorem ER.clear (h : ER M as H σ δ) (i : Nat) : ER M as H (σ.set i none) (δ.set i none) := by
  refine ⟨by rw [List.length_set, List.length_set]; exact h.len, fun j e q => ?_⟩
  by_cases hj : i = j
  · subst hj
    have hi : i < δ.length := by have := (List.getElem?_eq_some_iff.mp q).1; rw [List.length_set] at this; exact this
    rw [List.getElem?_set_self hi] at q
    cases q
  · rw [List.getElem?_set_ne hj] at q ⊢
    exact h.get j e q
def wipeD (δ : Sig) : List Nat → Sig
  | [] => δ
  | v :: vs => (wipeD δ vs).set v none
theorem ER.wipe (h : ER M as H σ δ) : ∀ vs, ER M as H (L2.wipe σ vs) (wipeD δ vs)
  | [] => h
  | v :: vs => (ER.wipe h vs).clear v

theorem SR.mem_some (h : SR M as H S) {p : Addr} (m : p ∈ as.cells) : ∃ o, H p = some o := by
  obtain ⟨i, hi⟩ := List.mem_iff_getElem?.mp m
  have hl : i < S.length := by rw [← h.len]; exact (List.getElem?_eq_some_iff.mp hi).1
  have q := h.cell i p S[i] hi (List.getElem?_eq_getElem hl)
  revert q
  cases S[i] with
  | lst ps => rintro ⟨vs, _, e, _⟩; exact ⟨_, e⟩
  | nst ks => rintro ⟨vs, _, e, _⟩; exact ⟨_, e⟩
  | dct kvs => rintro ⟨vs, _, e, _⟩; exact ⟨_, e⟩
  | fn => rintro ⟨g, e⟩; exact ⟨_, e⟩
  | tab x => rintro ⟨_, ps, e, _⟩; exact ⟨_, e⟩
theorem SR.fresh (h : SR M as H S) {p : Addr} (n : H p = none) : as.off p := by
  refine ⟨fun m => ?_, fun m => ?_⟩
  · obtain ⟨o, e⟩ := h.mem_some m
    rw [n] at e; cases e
  · obtain ⟨o, e⟩ := h.hidd p m
    rw [n] at e; cases e
theorem CR.mono {a : Addr} (x : Ext as H as' H') (k : H' a = H a) : ∀ {c : Cell}, CR M as H a c → CR M as' H' a c
  | .lst ps, ⟨vs, z, e, r⟩ => ⟨vs, z, by rw [k]; exact e, r.mono x⟩
  | .nst ks, ⟨vs, z, e, r⟩ => ⟨vs, z, by rw [k]; exact e, r.mono x.w⟩
  | .dct kvs, ⟨vs, z, e, r⟩ => ⟨vs, z, by rw [k]; exact e, r.mono x⟩
  | .fn, ⟨g, e⟩ => ⟨g, by rw [k]; exact e⟩
  | .tab _, ⟨u, t⟩ => ⟨u, tabN_exts t k x.exts⟩
/-- something new is laid -/
theorem ext_new {o : HO} {p : Addr} (h : SR M as H S) (n : H p = none) : Ext as H as (upd H p o) :=
  ⟨⟨[], by simp⟩, rfl, fun a u e na => ⟨by rw [upd_ne (ne_of_none e n)]; exact e, na⟩, fun a u _ e => by rw [upd_ne (ne_of_none e n)]; exact e, fun a g e => by rw [upd_ne (ne_of_none e n)]; exact e⟩
theorem SR.new {o : HO} {p : Addr} (h : SR M as H S) (n : H p = none) : SR M as (upd H p o) S :=
  ⟨h.len, h.nd, h.apart, fun a ha => by
    obtain ⟨u, e⟩ := h.hidd a ha
    exact ⟨u, by rw [upd_ne (ne_of_none e n)]; exact e⟩, fun i a c e1 e2 => (h.cell i a c e1 e2).mono (ext_new h n) (upd_ne fun z => (h.fresh n).1 (by rw [← z]; exact List.mem_of_getElem? e1))⟩
theorem ext_any {o : HO} {p : Addr} (h : SR M as H S) (n : H p = none) : Ext as H (as.add p) (upd H p o) := by
  refine ⟨⟨[p], rfl⟩, rfl, fun a u e na => ⟨by rw [upd_ne (ne_of_none e n)]; exact e, fun m => ?_, na.2⟩, fun a u _ e => by rw [upd_ne (ne_of_none e n)]; exact e, fun a g e => by rw [upd_ne (ne_of_none e n)]; exact e⟩
  rcases List.mem_append.mp m with m | m
  · exact na.1 m
  · have : a = p := by simpa using m
    subst this
    rw [n] at e; cases e
theorem ext_cell {vs : List V} {p : Addr} (h : SR M as H S) (n : H p = none) : Ext as H (as.add p) (upd H p (.lst vs)) := ext_any h n
theorem SR.newAny {o : HO} {cl : Cell} {p : Addr} (h : SR M as H S) (n : H p = none) (k : CR M (as.add p) (upd H p o) p cl) : SR M (as.add p) (upd H p o) (S ++ [cl]) := by
  have x := ext_any (o := o) h n
  refine ⟨by unfold As.add; rw [List.length_append, List.length_append, h.len]; rfl, List.nodup_append.mpr ⟨h.nd, by simp, fun a ha b hb e => ?_⟩, fun a ha => ?_, fun a ha => ?_, fun i a c e1 e2 => ?_⟩
  · have : b = p := by simpa using hb
    subst this
    subst e
    exact (h.fresh n).1 ha
  · rcases List.mem_append.mp ha with m | m
    · exact h.apart a m
    · have : a = p := by simpa using m
      subst this
      exact (h.fresh n).2
  · obtain ⟨u, e⟩ := h.hidd a ha
    exact ⟨u, by rw [upd_ne (ne_of_none e n)]; exact e⟩
  · have e1 : (as.cells ++ [p])[i]? = some a := e1
    by_cases hi : i < as.cells.length
    · rw [List.getElem?_append_left hi] at e1
      rw [List.getElem?_append_left (by rw [← h.len]; exact hi)] at e2
      exact (h.cell i a c e1 e2).mono x (upd_ne fun z => (h.fresh n).1 (by rw [← z]; exact List.mem_of_getElem? e1))
    · have hl : i < (as.cells ++ [p]).length := (List.getElem?_eq_some_iff.mp e1).1
      rw [List.length_append, List.length_singleton] at hl
      have hi' : i = as.cells.length := by omega
      subst hi'
      rw [List.getElem?_append_right (Nat.le_refl _), Nat.sub_self] at e1
      rw [h.len, List.getElem?_append_right (Nat.le_refl _), Nat.sub_self] at e2
      have e1' : p = a := by simpa using e1
      have e2' : cl = c := by simpa using e2
      subst e1'
      subst e2'
      exact k
theorem SR.newCell {vs : List V} {ps : List PV} {p : Addr} (h : SR M as H S) (n : H p = none) (z : vs.length ≤ sizeLine) (r : PRs M as H vs ps) : SR M (as.add p) (upd H p (.lst vs)) (S ++ [.lst ps]) := h.newAny n ⟨vs, z, upd_same, r.mono (ext_cell (vs := vs) h n).w⟩
theorem SR.newNest {vs : List V} {ks : List Nat} {p : Addr} (h : SR M as H S) (n : H p = none) (z : vs.length ≤ sizeLine) (r : KRs as vs ks) : SR M (as.add p) (upd H p (.lst vs)) (S ++ [.nst ks]) := h.newAny n ⟨vs, z, upd_same, r.mono (ext_cell (vs := vs) h n).w⟩
theorem SR.at (h : SR M as H S) {n : Nat} {ps : List PV} (e : S[n]? = some (.lst ps)) : ∃ a vs, as.cells[n]? = some a ∧ vs.length ≤ sizeLine ∧ H a = some (.lst vs) ∧ PRs M as H vs ps := by
  have hl : n < as.cells.length := by rw [h.len]; exact (List.getElem?_eq_some_iff.mp e).1
  obtain ⟨vs, z, q, r⟩ := h.cell n as.cells[n] _ (List.getElem?_eq_getElem hl) e
  exact ⟨as.cells[n], vs, List.getElem?_eq_getElem hl, z, q, r⟩
theorem SR.atD (h : SR M as H S) {n : Nat} {kvs : List (Int × PV)} (e : S[n]? = some (.dct kvs)) : ∃ a vs, as.cells[n]? = some a ∧ vs.length ≤ sizeLine ∧ H a = some (.dK (dzip kvs vs)) ∧ PRs M as H vs (kvs.map (·.2)) := by
  have hl : n < as.cells.length := by rw [h.len]; exact (List.getElem?_eq_some_iff.mp e).1
  obtain ⟨vs, z, q, r⟩ := h.cell n as.cells[n] _ (List.getElem?_eq_getElem hl) e
  exact ⟨as.cells[n], vs, List.getElem?_eq_getElem hl, z, q, r⟩
theorem ext_write {o : HO} {n : Nat} {a : Addr} {w0 : List V} (h : SR M as H S) (e : as.cells[n]? = some a) (hw : H a = some (.lst w0)) : Ext as H as (upd H a o) :=
  ⟨⟨[], by simp⟩, rfl, fun b u q nb => ⟨by rw [upd_ne fun z => nb.1 (by rw [z]; exact List.mem_of_getElem? e)]; exact q, nb⟩, fun b u hb q => by
    rw [upd_ne fun z => h.apart b (by rw [z]; exact List.mem_of_getElem? e) hb]; exact q, fun b g q => by
    rw [upd_ne fun z => by rw [z, hw] at q; cases q]; exact q⟩
theorem SR.writeAny (h : SR M as H S) {n : Nat} {a : Addr} {o : HO} {cl : Cell} {w0 : List V} (e : as.cells[n]? = some a) (hw : H a = some (.lst w0)) (k : CR M as (upd H a o) a cl) : SR M as (upd H a o) (S.set n cl) := by
  have x : Ext as H as (upd H a o) := ext_write h e hw
  refine ⟨by rw [List.length_set]; exact h.len, h.nd, h.apart, fun b hb => ?_, fun i b c e1 e2 => ?_⟩
  · obtain ⟨u, q⟩ := h.hidd b hb
    exact ⟨u, x.hkeep b u hb q⟩
  by_cases hi : n = i
  · subst hi
    rw [e] at e1; cases e1
    have hl : n < S.length := by rw [← h.len]; exact (List.getElem?_eq_some_iff.mp e).1
    rw [List.getElem?_set_self hl] at e2
    cases e2
    exact k
  · rw [List.getElem?_set_ne hi] at e2
    refine (h.cell i b c e1 e2).mono x (upd_ne fun q => hi ?_)
    subst q
    have h1 : n < as.cells.length := (List.getElem?_eq_some_iff.mp e).1
    have h2 : i < as.cells.length := (List.getElem?_eq_some_iff.mp e1).1
    rw [List.getElem?_eq_getElem h1] at e
    rw [List.getElem?_eq_getElem h2] at e1
    exact (List.getElem_inj h.nd).mp (by simp only [Option.some.injEq] at e e1; rw [e, e1])
theorem SR.write (h : SR M as H S) {n : Nat} {a : Addr} {vs w0 : List V} {ps : List PV} (e : as.cells[n]? = some a) (hw : H a = some (.lst w0)) (z : vs.length ≤ sizeLine) (r : PRs M as H vs ps) : SR M as (upd H a (.lst vs)) (S.set n (.lst ps)) := h.writeAny e hw ⟨vs, z, upd_same, r.mono (ext_write (o := .lst vs) h e hw).w⟩
theorem SR.writeNest (h : SR M as H S) {n : Nat} {a : Addr} {vs w0 : List V} {ks : List Nat} (e : as.cells[n]? = some a) (hw : H a = some (.lst w0)) (z : vs.length ≤ sizeLine) (r : KRs as vs ks) : SR M as (upd H a (.lst vs)) (S.set n (.nst ks)) := h.writeAny e hw ⟨vs, z, upd_same, r⟩
theorem SR.atN (h : SR M as H S) {n : Nat} {ks : List Nat} (e : S[n]? = some (.nst ks)) : ∃ a vs, as.cells[n]? = some a ∧ vs.length ≤ sizeLine ∧ H a = some (.lst vs) ∧ KRs as vs ks := by
  have hl : n < as.cells.length := by rw [h.len]; exact (List.getElem?_eq_some_iff.mp e).1
  obtain ⟨vs, z, q, r⟩ := h.cell n as.cells[n] _ (List.getElem?_eq_getElem hl) e
  exact ⟨as.cells[n], vs, List.getElem?_eq_getElem hl, z, q, r⟩
/-- one thing is hidden: H is Hm with something at p -/
theorem RdT.hide {K : PySem.W.Frag} {o : HO} {p a : Addr} {xs : List V} (n : H p = none) (h : RdT K as H a xs) : RdT K (as.hide p) (upd H p o) a xs := by
  refine ⟨h.1, ?_⟩
  rcases h.2 with ⟨⟨u, d, e⟩, q⟩ | h
  · have ne : a ≠ p := ne_of_none e n
    exact .inl ⟨⟨u, d, by rw [upd_ne ne]; exact e⟩, q.1, fun z => z.elim q.2 ne⟩
  · exact .inr h
theorem RdL.hide {o : HO} {p a : Addr} {xs : List V} (n : H p = none) (h : RdL as H a xs) : RdL (as.hide p) (upd H p o) a xs := by
  have ne : a ≠ p := ne_of_none h.2.1 n
  exact ⟨h.1, by rw [upd_ne ne]; exact h.2.1, h.2.2.1, fun z => z.elim h.2.2.2 ne⟩
theorem RdF.hide {K : PySem.W.Frag} {o : HO} {p a : Addr} {xs : List V} (n : H p = none) (h : RdF K as H a xs) : RdF K (as.hide p) (upd H p o) a xs := by
  refine ⟨h.1, ?_⟩
  rcases h.2 with ⟨⟨u, e⟩, q⟩ | h
  · have ne : a ≠ p := ne_of_none e n
    exact .inl ⟨⟨u, by rw [upd_ne ne]; exact e⟩, q.1, fun z => z.elim q.2 ne⟩
  · exact .inr h
mutual
theorem PR.hide {o : HO} {p : Addr} (n : H p = none) : ∀ {v : V} {x : PV}, PR M as H v x → PR M (as.hide p) (upd H p o) v x
  | _, _, .non => .non
  | _, _, .bl b => .bl b
  | _, _, .int i => .int i
  | _, _, .str y => .str y
  | _, _, .tup h t => .tup (h.hide n) (PRs.hide n t)
  | _, _, .lst h t => .lst (h.hide n) (PRs.hide n t)
  | _, _, .fro h t => .fro (h.hide n) (PRs.hide n t)
  | _, _, .glob h r => .glob h r
theorem PRs.hide {o : HO} {p : Addr} (n : H p = none) : ∀ {vs : List V} {ps : List PV}, PRs M as H vs ps → PRs M (as.hide p) (upd H p o) vs ps
  | _, _, .nil => .nil
  | _, _, .cons h t => .cons (PR.hide n h) (PRs.hide n t)
end
/-- H without p -/
def del (H : Hp) (p : Addr) : Hp := fun b => if b = p then none else H b
theorem del_same (H : Hp) (p : Addr) : del H p p = none := by unfold del; rw [if_pos rfl]
theorem del_ne {H : Hp} {p b : Addr} (h : b ≠ p) : del H p b = H b := by unfold del; rw [if_neg h]
theorem upd_del {H : Hp} {p : Addr} {o : HO} (h : H p = some o) : upd (del H p) p o = H := by
  funext b
  by_cases e : b = p
  · subst e; rw [upd_same, h]
  · rw [upd_ne e, del_ne e]
theorem del_upd {H : Hp} {p : Addr} {o : HO} (h : H p = none) : del (upd H p o) p = H := by
  funext b
  by_cases e : b = p
  · subst e; rw [del_same, h]
  · rw [del_ne e, upd_ne e]
theorem del_updu (H : Hp) (p : Addr) (o : HO) : del (upd H p o) p = del H p := by
  funext b
  by_cases e : b = p
  · subst e; rw [del_same, del_same]
  · rw [del_ne e, del_ne e, upd_ne e]
theorem Exw.hide {as1 as : As} {H1 H : Hp} {p : Addr} {o : HO} (x : Exw as1 H1 as H) (n1 : H1 p = none) : Exw as1 H1 (as.hide p) (upd H p o) :=
  ⟨x.more, fun a u e q => by
    obtain ⟨h1, h2⟩ := x.keep a u e q
    have ne : a ≠ p := ne_of_none e n1
    exact ⟨by rw [upd_ne ne]; exact h1, h2.1, fun z => z.elim h2.2 ne⟩⟩
mutual
theorem PR.unhide {as : As} {p : Addr} : ∀ {v : V} {x : PV}, PR M (as.hide p) H v x → PR M as (del H p) v x
  | _, _, .non => .non
  | _, _, .bl b => .bl b
  | _, _, .int i => .int i
  | _, _, .str y => .str y
  | _, _, .tup h t => .tup ⟨h.1, h.2.imp (fun ⟨⟨o, d, e⟩, q⟩ => ⟨⟨o, d, by rw [del_ne fun z => q.2 (.inr z)]; exact e⟩, q.1, fun z => q.2 (.inl z)⟩) id⟩ (PRs.unhide t)
  | _, _, .lst ⟨z, e, q⟩ t => .lst ⟨z, by rw [del_ne fun z => q.2 (.inr z)]; exact e, q.1, fun z => q.2 (.inl z)⟩ (PRs.unhide t)
  | _, _, .fro h t => .fro ⟨h.1, h.2.imp (fun ⟨⟨o, e⟩, q⟩ => ⟨⟨o, by rw [del_ne fun z => q.2 (.inr z)]; exact e⟩, q.1, fun z => q.2 (.inl z)⟩) id⟩ (PRs.unhide t)
  | _, _, .glob h r => .glob h r
theorem PRs.unhide {as : As} {p : Addr} : ∀ {vs : List V} {ps : List PV}, PRs M (as.hide p) H vs ps → PRs M as (del H p) vs ps
  | _, _, .nil => .nil
  | _, _, .cons h t => .cons (PR.unhide h) (PRs.unhide t)
end
theorem SR.hide {o : HO} {p : Addr} (h : SR M as H S) (n : H p = none) : SR M (as.hide p) (upd H p o) S := by
  refine ⟨h.len, h.nd, fun a ha z => ?_, fun a ha => ?_, fun i a c e1 e2 => ?_⟩
  · rcases z with z | z
    · exact h.apart a ha z
    · subst z; exact (h.fresh n).1 ha
  · rcases ha with ha | ha
    · obtain ⟨u, e⟩ := h.hidd a ha
      exact ⟨u, by rw [upd_ne (ne_of_none e n)]; exact e⟩
    · subst ha; exact ⟨o, upd_same⟩
  · have q := h.cell i a c e1 e2
    have ne : a ≠ p := fun z => (h.fresh n).1 (by rw [← z]; exact List.mem_of_getElem? e1)
    cases c with
    | lst ps =>
      obtain ⟨vs, z, e, t⟩ := q
      exact ⟨vs, z, by rw [upd_ne ne]; exact e, t.hide n⟩
    | nst ks =>
      obtain ⟨vs, z, e, t⟩ := q
      exact ⟨vs, z, by rw [upd_ne ne]; exact e, t⟩
    | dct kvs =>
      obtain ⟨vs, z, e, t⟩ := q
      exact ⟨vs, z, by rw [upd_ne ne]; exact e, t.hide n⟩
    | fn =>
      obtain ⟨g, e⟩ := q
      exact ⟨g, by rw [upd_ne ne]; exact e⟩
    | tab x => exact ⟨q.1, tabN_exts q.2 (upd_ne ne) fun b g e => by rw [upd_ne (ne_of_none e n)]; exact e⟩
theorem SR.unhide {as : As} {p : Addr} (h : SR M (as.hide p) H S) (np : ¬ as.hid p) (hp : ∃ vs, H p = some (.lst vs)) : SR M as (del H p) S := by
  refine ⟨h.len, h.nd, fun a ha z => h.apart a ha (.inl z), fun a ha => ?_, fun i a c e1 e2 => ?_⟩
  · obtain ⟨u, e⟩ := h.hidd a (.inl ha)
    exact ⟨u, by rw [del_ne fun z => np (by rw [← z]; exact ha)]; exact e⟩
  · have q := h.cell i a c e1 e2
    have ne : a ≠ p := fun z => h.apart a (List.mem_of_getElem? e1) (.inr z)
    cases c with
    | lst ps =>
      obtain ⟨vs, z, e, t⟩ := q
      exact ⟨vs, z, by rw [del_ne ne]; exact e, t.unhide⟩
    | nst ks =>
      obtain ⟨vs, z, e, t⟩ := q
      exact ⟨vs, z, by rw [del_ne ne]; exact e, t⟩
    | dct kvs =>
      obtain ⟨vs, z, e, t⟩ := q
      exact ⟨vs, z, by rw [del_ne ne]; exact e, t.unhide⟩
    | fn =>
      obtain ⟨g, e⟩ := q
      exact ⟨g, by rw [del_ne ne]; exact e⟩
    | tab x => exact ⟨q.1, tabN_exts q.2 (del_ne ne) fun b g e => by
        rw [del_ne fun z => by
          obtain ⟨vs, hv⟩ := hp
          rw [z, hv] at e
          cases e]
        exact e⟩
theorem Ext.unhide {as as' : As} {p : Addr} {H H' : Hp} {o : HO} (n : H p = none) (np : ¬ as.hid p) (x : Ext (as.hide p) (upd H p o) as' H') : Ext as H ⟨as'.cells, as.hid⟩ (del H' p) ∧ as' = As.hide ⟨as'.cells, as.hid⟩ p ∧ H' p = some o := by
  have e1 : as' = As.hide ⟨as'.cells, as.hid⟩ p := by
    obtain ⟨c, h⟩ := as'
    have := x.hids
    simp only at this
    subst this
    rfl
  refine ⟨⟨x.more, rfl, fun a u e q => ?_, fun a u ha e => ?_, fun a g e => ?_⟩, e1, x.hkeep p o (.inr rfl) upd_same⟩
  · have ne : a ≠ p := ne_of_none e n
    obtain ⟨h1, h2⟩ := x.keep a u (by rw [upd_ne ne]; exact e) ⟨q.1, fun z => z.elim q.2 ne⟩
    rw [e1] at h2
    exact ⟨by rw [del_ne ne]; exact h1, h2.1, q.2⟩
  · have ne : a ≠ p := ne_of_none e n
    rw [del_ne ne]
    exact x.hkeep a u (.inl ha) (by rw [upd_ne ne]; exact e)
  · have ne : a ≠ p := ne_of_none e n
    rw [del_ne ne]
    exact x.exts a g (by rw [upd_ne ne]; exact e)
theorem ER.hide {o : HO} {p : Addr} (n : H p = none) (h : ER M as H σ δ) : ER M (as.hide p) (upd H p o) σ δ := ⟨h.len, fun i d e => by
  obtain ⟨v, q, r⟩ := h.get i d e
  refine ⟨v, q, ?_⟩
  cases d with
  | p x => exact PR.hide n r
  | c n => exact r⟩
/-- the items of a list or a tuple -/
def items : DV → AH → Option (List PV)
  | .p (.tup xs), _ => some xs
  | .p (.lst xs), _ => some xs
  | .p (.fro xs), _ => some xs
  | .c n, S => match S[n]? with
    | some (.lst xs) => some xs
    | _ => none
  | _, _ => none
theorem items_sq {d : DV} {v : V} {xs : List PV} (h : SR M as H S) (r : DVR M as H v d) (e : items d S = some xs) : ∃ a vs, v = .ref a ∧ vs.length ≤ sizeLine ∧ (SqL M.K H a vs ∨ SqT M.K H a vs) ∧ PRs M as H vs xs := by
  cases d with
  | p x =>
    cases x with
    | tup ys => cases e; cases r with | tup h t => exact ⟨_, _, rfl, h.1, .inr h.sq, t⟩
    | lst ys => cases e; cases r with | lst h t => exact ⟨_, _, rfl, h.1, .inl h.sq, t⟩
    | fro ys => cases e; cases r with | fro h t => exact ⟨_, _, rfl, h.1, .inl h.sq, t⟩
    | _ => cases e
  | c n =>
    obtain ⟨a, ea, rfl⟩ := r
    simp only [items] at e
    split at e
    · rename_i ys q
      cases e
      obtain ⟨b, vs, eb, z, hb, t⟩ := h.at q
      rw [ea] at eb; cases eb
      exact ⟨_, _, rfl, z, .inl (.of hb), t⟩
    · cases e
end

section
variable {M : Wd} {as : As} {H : Hp} {S : AH}
/-- the cells in a nest -/
def nitems : DV → AH → Option (List Nat)
  | .c n, S => match S[n]? with
    | some (.nst ks) => some ks
    | _ => none
  | _, _ => none
theorem nitems_sq {d : DV} {v : V} {ks : List Nat} (h : SR M as H S) (r : DVR M as H v d) (e : nitems d S = some ks) : ∃ a vs, v = .ref a ∧ vs.length ≤ sizeLine ∧ H a = some (.lst vs) ∧ KRs as vs ks := by
  cases d with
  | p x => cases e
  | c n =>
    obtain ⟨a, ea, rfl⟩ := r
    simp only [nitems] at e
    split at e
    · rename_i ys q
      cases e
      obtain ⟨b, vs, eb, z, hb, t⟩ := h.atN q
      rw [ea] at eb; cases eb
      exact ⟨_, _, rfl, z, hb, t⟩
    · cases e
theorem KRs.length {vs : List V} {ks : List Nat} (h : KRs as vs ks) : vs.length = ks.length := Paired.length h
theorem KRs.get : ∀ {vs : List V} {ks : List Nat} {i k : Nat}, KRs as vs ks → ks[i]? = some k → ∃ v, vs[i]? = some v ∧ ∃ b, as.cells[k]? = some b ∧ v = .ref b
  | _, _, i, k, .nil, e => by simp at e
  | _, _, 0, k, .cons h _, e => by simp at e; subst e; exact ⟨_, rfl, h⟩
  | _, _, i + 1, k, .cons _ t, e => by
    obtain ⟨v, h1, h2⟩ := KRs.get (i := i) (k := k) t (by simpa using e)
    exact ⟨v, by simpa using h1, h2⟩
theorem KRs.append : ∀ {vs ws : List V} {ks ls : List Nat}, KRs as vs ks → KRs as ws ls → KRs as (vs ++ ws) (ks ++ ls)
  | _, _, _, _, .nil, s => s
  | _, _, _, _, .cons r t, s => .cons r (KRs.append t s)
theorem KRs.set {v : V} {k : Nat} (r : ∃ b, as.cells[k]? = some b ∧ v = .ref b) : ∀ {vs : List V} {ks : List Nat} (i : Nat), KRs as vs ks → KRs as (vs.set i v) (ks.set i k)
  | _, _, _, .nil => .nil
  | _, _, 0, .cons _ t => .cons r t
  | _, _, i + 1, .cons q t => .cons q (KRs.set r i t)
end
/-! ### what is wanted behind a result -/
def ExR (M : Wd) (as : As) (H : Hp) (c : Str) (p : List (Str × PV)) (cls : Value) (dd : Option Addr) : Prop :=
  M.mg c = some cls ∧ (p = [] → dd = none) ∧ (p ≠ [] → ∃ d fs, dd = some d ∧ as.off d ∧ H d = some (.xd fs) ∧ Paired (fun (f : Str × V) (g : Str × PV) => f.1 = g.1 ∧ PR M as H f.2 g.2) fs p)
def WR {α β : Type} (M : Wd) (E : XK) (R : As → Hp → β → α → Prop) (as : As) (H : Hp) (r : Res α) (Q : β → Hp → Prop) : Prop := match r with
  | .ok a S' => ∀ as' H' b, Ext as H as' H' → SR M as' H' S' → R as' H' b a → Q b H'
  | .exc c p S' => ∀ as' H' cls dd, Ext as H as' H' → SR M as' H' S' → ExR M as' H' c p cls dd → E cls dd H'
  | .bad => False
section
variable {α β γ ε : Type} {M : Wd} {E : XK} {R : As → Hp → β → α → Prop} {R2 : As → Hp → ε → γ → Prop} {as as' : As} {H H' : Hp}
theorem WR.later {r : Res α} {Q : β → Hp → Prop} (x : Ext as H as' H') (w : WR M E R as H r Q) : WR M E R as' H' r Q := by
  cases r with
  | ok a S => exact fun as2 H2 b e => w as2 H2 b (x.trans e)
  | exc c p S => exact fun as2 H2 cls dd e => w as2 H2 cls dd (x.trans e)
  | bad => exact w
theorem WR.mono {r : Res α} {Q Q' : β → Hp → Prop} (w : WR M E R as H r Q) (h : ∀ a S as' H' b, r = .ok a S → Ext as H as' H' → SR M as' H' S → R as' H' b a → Q b H' → Q' b H') : WR M E R as H r Q' := by
  cases r with
  | ok a S => exact fun as2 H2 b e s q => h a S as2 H2 b rfl e s q (w as2 H2 b e s q)
  | exc c p S => exact w
  | bad => exact w
theorem WR.bind {r : Res α} {k : α → AH → Res γ} {Q : ε → Hp → Prop} (w : WR M E R2 as H (r.bind k) Q) :
    WR M E R as H r (fun b H1 => ∃ as1 S1 a, r = .ok a S1 ∧ Ext as H as1 H1 ∧ SR M as1 H1 S1 ∧ R as1 H1 b a ∧ WR M E R2 as1 H1 (k a S1) Q) := by
  cases r with
  | ok a S => exact fun as2 H2 b e s q => ⟨as2, S, a, rfl, e, s, q, WR.later e w⟩
  | exc c p S => exact w
  | bad => exact w
theorem WR.pure {a : α} {S : AH} {Q : β → Hp → Prop} (w : WR M E R as H (.ok a S) Q) {b : β} (s : SR M as H S) (r : R as H b a) : Q b H := w as H b (Ext.refl _ _) s r
end
end DL
namespace DL
noncomputable section
open PySem PySem.Spec PyProof.Rows L2

/-! ### judgements -/
abbrev wd (X : Cx) : Wd := ⟨X.K, X.mg⟩
def RB {β : Type} : As → Hp → β → β → Prop := fun _ _ a b => a = b
def tD (M : Wd) (E : L2.St → XK) (f : Sig → AH → Res DV) : TE := fun σ H Q => ∃ as δ S, SR M as H S ∧ ER M as H σ δ ∧ WR M (E σ) (DVR M) as H (f δ S) Q
def tDT (M : Wd) (E : L2.St → XK) (f : Sig → AH → Res Bool) : TT := fun σ H Q => ∃ as δ S, SR M as H S ∧ ER M as H σ δ ∧ WR M (E σ) RB as H (f δ S) Q
def tDA (M : Wd) (E : L2.St → XK) (f : Sig → AH → Res (List DV)) : TA := fun σ H Q => ∃ as δ S, SR M as H S ∧ ER M as H σ δ ∧ WR M (E σ) (DVRs M) as H (f δ S) Q
abbrev DE (X : Cx) (E : L2.St → XK) (e : Expr) (f : Sig → AH → Res DV) : Prop := PE X e (tD (wd X) E f)
abbrev DT (X : Cx) (E : L2.St → XK) (e : Expr) (f : Sig → AH → Res Bool) : Prop := PT X e (tDT (wd X) E f)
abbrev DW (X : Cx) (E : L2.St → XK) (e : Expr) (f : Sig → AH → Res Bool) : Prop := PW X e (tDT (wd X) E f)
abbrev DA (X : Cx) (E : L2.St → XK) (es : List Expr) (f : Sig → AH → Res (List DV)) : Prop := PA X es (tDA (wd X) E f)
theorem _root_.L2.PE.imp {X : Cx} {e : Expr} {t t' : TE} (h : PE X e t) (i : ∀ σ H Q, t' σ H Q → t σ H Q) : PE X e t' := ⟨fun pins s σ H Q I q => h.run pins s σ H Q I (i σ H Q q)⟩
theorem _root_.L2.PT.imp {X : Cx} {e : Expr} {t t' : TT} (h : PT X e t) (i : ∀ σ H Q, t' σ H Q → t σ H Q) : PT X e t' := ⟨fun pins s σ H Q I q => h.run pins s σ H Q I (i σ H Q q)⟩
theorem _root_.L2.PW.imp {X : Cx} {e : Expr} {t t' : TT} (h : PW X e t) (i : ∀ σ H Q, t' σ H Q → t σ H Q) : PW X e t' := ⟨fun wh pins s σ H Q I q => h.run wh pins s σ H Q I (i σ H Q q)⟩
theorem _root_.L2.PA.imp {X : Cx} {e : List Expr} {t t' : TA} (h : PA X e t) (i : ∀ σ H Q, t' σ H Q → t σ H Q) : PA X e t' := ⟨fun pos pins s σ H Q I q => h.run pos pins s σ H Q I (i σ H Q q)⟩

/-! ### operations on values -/
abbrev Op1 := DV → AH → Option (DV × AH)
abbrev Op2 := DV → DV → AH → Option (DV × AH)
abbrev OpN := List DV → AH → Option (DV × AH)
def lift {α : Type} : Option (α × AH) → Res α
  | some (d, S) => .ok d S
  | none => .bad
@[simp] theorem lift_some {α : Type} (d : α) (S : AH) : lift (some (d, S)) = .ok d S := rfl
@[simp] theorem lift_none {α : Type} : lift (none : Option (α × AH)) = .bad := rfl
def WO (M : Wd) (as : As) (H : Hp) (r : Option (DV × AH)) (Q : VK) : Prop := match r with
  | some (d, S') => ∀ as' H' b, Ext as H as' H' → SR M as' H' S' → DVR M as' H' b d → Q b H'
  | none => False
theorem WR.wo {M : Wd} {E : XK} {as : As} {H : Hp} {r : Option (DV × AH)} {Q : VK} (w : WR M E (DVR M) as H (lift r) Q) : WO M as H r Q := by
  cases r with
  | some p => exact w
  | none => exact w
def rO (M : Wd) (o : Op2) : R2 := fun x y H Q => ∃ as S d1 d2, SR M as H S ∧ DVR M as H x d1 ∧ DVR M as H y d2 ∧ WO M as H (o d1 d2 S) Q
def rO1 (M : Wd) (o : Op1) : V → Hp → VK → Prop := fun x H Q => ∃ as S d1, SR M as H S ∧ DVR M as H x d1 ∧ WO M as H (o d1 S) Q
def rON (M : Wd) (o : OpN) : List V → Hp → VK → Prop := fun vs H Q => ∃ as S ds, SR M as H S ∧ DVRs M as H vs ds ∧ WO M as H (o ds S) Q
/-- a value without a new object -/
theorem WO.here {M : Wd} {as : As} {H : Hp} {S : AH} {d : DV} {Q : VK} {v : V} (w : WO M as H (some (d, S)) Q) (s : SR M as H S) (r : DVR M as H v d) : Q v H := w as H v (Ext.refl _ _) s r
theorem WO.tup {M : Wd} {as : As} {H : Hp} {S : AH} {ps : List PV} {vs : List V} {Q : VK} (w : WO M as H (some (.p (.tup ps), S)) Q) (s : SR M as H S) (z : vs.length ≤ sizeLine) (r : PRs M as H vs ps) : NewT H Q vs := fun p o n d =>
  w as _ _ (ext_new s n) (s.new n) (.tup ⟨z, .inl ⟨⟨o, d, upd_same⟩, s.fresh n⟩⟩ (r.mono (ext_new s n).w))
theorem WO.lst {M : Wd} {as : As} {H : Hp} {S : AH} {ps : List PV} {vs : List V} {Q : VK} {p : Addr} (w : WO M as H (some (.p (.lst ps), S)) Q) (s : SR M as H S) (z : vs.length ≤ sizeLine) (r : PRs M as H vs ps) (n : H p = none) : Q (.ref p) (upd H p (.lst vs)) :=
  w as _ _ (ext_new s n) (s.new n) (.lst ⟨z, upd_same, s.fresh n⟩ (r.mono (ext_new s n).w))
/-- the items of a list -/
def lstOf : DV → AH → Option (List PV)
  | .p (.lst xs), _ => some xs
  | .c n, S => match S[n]? with
    | some (.lst xs) => some xs
    | _ => none
  | _, _ => none
theorem lstOf_at {M : Wd} {as : As} {H : Hp} {S : AH} {d : DV} {v : V} {xs : List PV} (h : SR M as H S) (r : DVR M as H v d) (e : lstOf d S = some xs) : ∃ a vs, v = .ref a ∧ vs.length ≤ sizeLine ∧ H a = some (.lst vs) ∧ PRs M as H vs xs := by
  cases d with
  | p x =>
    cases x with
    | lst ys => cases e; cases r with | lst h t => exact ⟨_, _, rfl, h.1, h.2.1, t⟩
    | _ => cases e
  | c n =>
    obtain ⟨a, ea, rfl⟩ := r
    simp only [lstOf] at e
    split at e
    · rename_i ys q
      cases e
      obtain ⟨b, vs, eb, z, hb, t⟩ := h.at q
      rw [ea] at eb; cases eb
      exact ⟨_, _, rfl, z, hb, t⟩
    · cases e
def addO : Op2 := fun a b S => match a, b with
  | .p (.int i), .p (.int j) => some (.p (.int (i + j)), S)
  | .p (.str x), .p (.str y) => if x.length + y.length ≤ sizeLine then some (.p (.str (x ++ y)), S) else none
  | .p (.tup xs), .p (.tup ys) => if xs.length + ys.length ≤ sizeLine then some (.p (.tup (xs ++ ys)), S) else none
  | _, _ => match lstOf a S, lstOf b S with
    | some xs, some ys => if xs.length + ys.length ≤ sizeLine then some (.p (.lst (xs ++ ys)), S) else none
    | _, _ => none
def subO : Op2 := fun a b S => match a, b with
  | .p (.int i), .p (.int j) => some (.p (.int (i - j)), S)
  | _, _ => none
def mulOk (i j : Int) : Prop := ((-(2 ^ 64) < i ∧ i < 2 ^ 64) ∨ (-(2 ^ 64) < j ∧ j < 2 ^ 64)) ∨ i.natAbs.log2 + j.natAbs.log2 < 1000000
noncomputable instance (i j : Int) : Decidable (mulOk i j) := Classical.propDecidable _
def mulO : Op2 := fun a b S => match a, b with
  | .p (.int i), .p (.int j) => if mulOk i j then some (.p (.int (i * j)), S) else none
  | .p (.tup xs), .p (.int k) => if xs ≠ [] ∧ 2 ≤ k ∧ k ≤ 1000 ∧ xs.length ≤ 1000 then some (.p (.tup (List.replicate k.toNat xs).flatten), S) else none
  | _, _ => none
def divOk (j : Int) : Prop := 0 < j ∧ j.natAbs.log2 < 9000
noncomputable instance (j : Int) : Decidable (divOk j) := Classical.propDecidable _
def divO : Op2 := fun a b S => match a, b with
  | .p (.int i), .p (.int j) => if divOk j then some (.p (.int (i / j)), S) else none
  | _, _ => none
def modO : Op2 := fun a b S => match a, b with
  | .p (.int i), .p (.int j) => if 0 < j then some (.p (.int (i % j)), S) else none
  | _, _ => none
def powOk (i j : Int) : Prop := 0 ≤ j ∧ j ≤ 1000000 ∧ i.natAbs < 2 ^ 64
noncomputable instance (i j : Int) : Decidable (powOk i j) := Classical.propDecidable _
def powO : Op2 := fun a b S => match a, b with
  | .p (.int i), .p (.int j) => if powOk i j then some (.p (.int (i ^ j.toNat)), S) else none
  | _, _ => none
section
variable {X : Cx}
theorem ow_add : OpR X (binaryOp .Add) (rO (wd X) addO) := by
  intro pins s σ H x y v u Q I rx ry h
  obtain ⟨as, S, d1, d2, sr, r1, r2, w⟩ := h
  unfold addO at w
  split at w
  · cases r1; cases r2
    exact op_add pins s σ H _ _ v u Q I rx ry ⟨_, _, rfl, rfl, w.here sr (.int _)⟩
  · cases r1; cases r2
    split at w
    · rename_i z
      exact op_add_str pins s σ H _ _ v u Q I rx ry ⟨_, _, rfl, rfl, z, w.here sr (.str _)⟩
    · exact w.elim
  · cases r1 with
    | tup h1 t1 =>
      cases r2 with
      | tup h2 t2 =>
        split at w
        · rename_i z
          have z2 : _ ≤ _ := z
          rw [← t1.length, ← t2.length] at z2
          refine op_catZ pins s σ H _ _ v u Q I rx ry ⟨_, _, _, _, rfl, rfl, h1.sq, h2.sq, z2, fun e => ?_, fun e e2 => ?_, fun e e2 => ?_⟩
          · subst e
            cases t1
            exact w.here sr (.tup h2 t2)
          · subst e2
            cases t2
            rw [List.append_nil] at w
            exact w.here sr (.tup h1 t1)
          · exact w.tup sr (by rw [List.length_append]; exact z2) (t1.append t2)
        · exact w.elim
  · split at w
    · rename_i xs ys e1 e2
      obtain ⟨a, vs, rfl, z1, h1, t1⟩ := lstOf_at sr r1 e1
      obtain ⟨b, ws, rfl, z2, h2, t2⟩ := lstOf_at sr r2 e2
      split at w
      · rename_i z
        rw [← t1.length, ← t2.length] at z
        exact op_cat pins s σ H _ _ v u Q I rx ry ⟨_, _, _, _, rfl, rfl, h1, h2, z, fun p n => w.lst sr (by rw [List.length_append]; exact z) (t1.append t2) n⟩
      · exact w.elim
    · exact w.elim
theorem ow_sub : OpR X (binaryOp .Sub) (rO (wd X) subO) := by
  intro pins s σ H x y v u Q I rx ry h
  obtain ⟨as, S, d1, d2, sr, r1, r2, w⟩ := h
  unfold subO at w
  split at w
  · cases r1; cases r2
    exact op_sub pins s σ H _ _ v u Q I rx ry ⟨_, _, rfl, rfl, w.here sr (.int _)⟩
  · exact w.elim
theorem PRs.rep {M : Wd} {as : As} {H : Hp} {vs : List V} {ps : List PV} (h : PRs M as H vs ps) : ∀ k : Nat, PRs M as H (List.replicate k vs).flatten (List.replicate k ps).flatten
  | 0 => .nil
  | k + 1 => by
    rw [List.replicate_succ, List.replicate_succ, List.flatten_cons, List.flatten_cons]
    exact PRs.append h (PRs.rep h k)
theorem ow_mul : OpR X (binaryOp .Mult) (rO (wd X) mulO) := by
  intro pins s σ H x y v u Q I rx ry h
  obtain ⟨as, S, d1, d2, sr, r1, r2, w⟩ := h
  unfold mulO at w
  split at w
  · cases r1; cases r2
    split at w
    · rename_i z
      rcases z with z | z
      · exact op_mul pins s σ H _ _ v u Q I rx ry ⟨_, _, rfl, rfl, z, w.here sr (.int _)⟩
      · exact op_mulW pins s σ H _ _ v u Q I rx ry ⟨_, _, rfl, rfl, z, w.here sr (.int _)⟩
    · exact w.elim
  · cases r2
    cases r1 with
    | tup h1 t1 =>
      split at w
      · rename_i z
        obtain ⟨z1, z2, z3, z4⟩ := z
        have hl := t1.length
        refine op_repZ pins s σ H _ _ v u Q I rx ry ⟨_, _, _, rfl, rfl, h1.sq, fun e => ?_, z2, z3, by omega, w.tup sr ?_ (t1.rep _)⟩
        · subst e
          cases t1
          exact z1 rfl
        · rw [PyProof.Rows.lm_len_rep_flat, sizeLine_eq]
          refine Nat.le_trans (m := 1000 * 1000) (Nat.mul_le_mul ?_ ?_) (by decide)
          · omega
          · omega
      · exact w.elim
  · exact w.elim
theorem ow_div : OpR X (binaryOp .FloorDiv) (rO (wd X) divO) := by
  intro pins s σ H x y v u Q I rx ry h
  obtain ⟨as, S, d1, d2, sr, r1, r2, w⟩ := h
  unfold divO at w
  split at w
  · cases r1; cases r2
    split at w
    · rename_i z
      exact op_fdivW pins s σ H _ _ v u Q I rx ry ⟨_, _, rfl, rfl, z, w.here sr (.int _)⟩
    · exact w.elim
  · exact w.elim
theorem ow_mod : OpR X (binaryOp .Mod) (rO (wd X) modO) := by
  intro pins s σ H x y v u Q I rx ry h
  obtain ⟨as, S, d1, d2, sr, r1, r2, w⟩ := h
  unfold modO at w
  split at w
  · cases r1; cases r2
    split at w
    · rename_i z
      exact op_mod pins s σ H _ _ v u Q I rx ry ⟨_, _, rfl, rfl, z, w.here sr (.int _)⟩
    · exact w.elim
  · exact w.elim
theorem ow_pow : OpR X (binaryOp .Pow) (rO (wd X) powO) := by
  intro pins s σ H x y v u Q I rx ry h
  obtain ⟨as, S, d1, d2, sr, r1, r2, w⟩ := h
  unfold powO at w
  split at w
  · cases r1; cases r2
    split at w
    · rename_i z
      exact op_pow pins s σ H _ _ v u Q I rx ry ⟨_, _, rfl, rfl, z, w.here sr (.int _)⟩
    · exact w.elim
  · exact w.elim
def negO : Op1 := fun a S => match a with
  | .p (.int i) => some (.p (.int (-i)), S)
  | _ => none
theorem ow_neg : UnR X (unaryOp .USub) (rO1 (wd X) negO) := by
  intro pins s σ H x v Q I rx h
  obtain ⟨as, S, d1, sr, r1, w⟩ := h
  unfold negO at w
  split at w
  · cases r1
    exact un_neg pins s σ H _ v Q I rx ⟨_, rfl, w.here sr (.int _)⟩
  · exact w.elim
end

section
open PySem.SeqAt
/-! ### comparisons of numbers and truth values -/
theorem gv_le_bi (p : Bool) (a : Int) (t : Tok) : Gives (Builtin.«int.__le__» ⟨[.bool p, .int a t], []⟩) (.val (Value.bool ((fun x1 x2 => decide (x1 ≤ x2)) (if p = true then (1 : Int) else 0) a))) :=
  .of_wp fun M A E s Q h => by obtain ⟨hp, g, d, tk, os⟩ := s; wp_walk; exact ⟨_, rfl, h⟩
theorem gv_lt_bi (p : Bool) (a : Int) (t : Tok) : Gives (Builtin.«int.__lt__» ⟨[.bool p, .int a t], []⟩) (.val (Value.bool ((fun x1 x2 => decide (x1 < x2)) (if p = true then (1 : Int) else 0) a))) :=
  .of_wp fun M A E s Q h => by obtain ⟨hp, g, d, tk, os⟩ := s; wp_walk; exact ⟨_, rfl, h⟩
theorem gv_ge_bi (p : Bool) (a : Int) (t : Tok) : Gives (Builtin.«int.__ge__» ⟨[.bool p, .int a t], []⟩) (.val (Value.bool ((fun x1 x2 => decide (x1 ≥ x2)) (if p = true then (1 : Int) else 0) a))) :=
  .of_wp fun M A E s Q h => by obtain ⟨hp, g, d, tk, os⟩ := s; wp_walk; exact ⟨_, rfl, h⟩
theorem gv_gt_bi (p : Bool) (a : Int) (t : Tok) : Gives (Builtin.«int.__gt__» ⟨[.bool p, .int a t], []⟩) (.val (Value.bool ((fun x1 x2 => decide (x1 > x2)) (if p = true then (1 : Int) else 0) a))) :=
  .of_wp fun M A E s Q h => by obtain ⟨hp, g, d, tk, os⟩ := s; wp_walk; exact ⟨_, rfl, h⟩
section
variable {prog : Program} {w : World} {A : Around} {E : Value → Shared → Prop} {s : Shared} {a : Int} {t : Tok} {p : Bool} {Q : Value → Shared → Prop}
theorem le_bi (h : Q (.bool (decide (b2i p ≤ a))) s) : wpAny (model prog w) A (compareOp .LtE (.bool p) (.int a t)) Q E s := by
  show wpAny _ _ (richCompare .LtE (.bool p) (.int a t)) Q E s
  exact rc_left_or rfl (typeIs_int s a t) (by decide) F.sub_int_bool F.slot_bool_le (call_gives F.slot_bool_le rfl F.entry_int_le (F.args_int_le_2 _ _) (gv_le_bi p a t) ⟨nofun, h⟩) (.inl rfl)
theorem lt_bi (h : Q (.bool (decide (b2i p < a))) s) : wpAny (model prog w) A (compareOp .Lt (.bool p) (.int a t)) Q E s := by
  show wpAny _ _ (richCompare .Lt (.bool p) (.int a t)) Q E s
  exact rc_left_or rfl (typeIs_int s a t) (by decide) F.sub_int_bool F.slot_bool_lt (call_gives F.slot_bool_lt rfl F.entry_int_lt (F.args_int_lt_2 _ _) (gv_lt_bi p a t) ⟨nofun, h⟩) (.inl rfl)
theorem ge_bi (h : Q (.bool (decide (a ≤ b2i p))) s) : wpAny (model prog w) A (compareOp .GtE (.bool p) (.int a t)) Q E s := by
  show wpAny _ _ (richCompare .GtE (.bool p) (.int a t)) Q E s
  exact rc_left_or rfl (typeIs_int s a t) (by decide) F.sub_int_bool F.slot_bool_ge (call_gives F.slot_bool_ge rfl F.entry_int_ge (F.args_int_ge_2 _ _) (gv_ge_bi p a t) ⟨nofun, h⟩) (.inl rfl)
theorem gt_bi (h : Q (.bool (decide (a < b2i p))) s) : wpAny (model prog w) A (compareOp .Gt (.bool p) (.int a t)) Q E s := by
  show wpAny _ _ (richCompare .Gt (.bool p) (.int a t)) Q E s
  exact rc_left_or rfl (typeIs_int s a t) (by decide) F.sub_int_bool F.slot_bool_gt (call_gives F.slot_bool_gt rfl F.entry_int_gt (F.args_int_gt_2 _ _) (gv_gt_bi p a t) ⟨nofun, h⟩) (.inl rfl)
theorem le_ib (h : Q (.bool (decide (a ≤ b2i p))) s) : wpAny (model prog w) A (compareOp .LtE (.int a t) (.bool p)) Q E s := by
  show wpAny _ _ (richCompare .LtE (.int a t) (.bool p)) Q E s
  exact rc_sub_first_or (typeIs_int s a t) rfl (by decide) F.sub_bool_int F.slot_bool_ge_refl (call_gives F.slot_bool_ge_refl rfl F.entry_int_ge (F.args_int_ge_2 _ _) (gv_ge_bi p a t) ⟨nofun, h⟩) (.inl rfl)
theorem lt_ib (h : Q (.bool (decide (a < b2i p))) s) : wpAny (model prog w) A (compareOp .Lt (.int a t) (.bool p)) Q E s := by
  show wpAny _ _ (richCompare .Lt (.int a t) (.bool p)) Q E s
  exact rc_sub_first_or (typeIs_int s a t) rfl (by decide) F.sub_bool_int F.slot_bool_gt_refl (call_gives F.slot_bool_gt_refl rfl F.entry_int_gt (F.args_int_gt_2 _ _) (gv_gt_bi p a t) ⟨nofun, h⟩) (.inl rfl)
theorem ge_ib (h : Q (.bool (decide (b2i p ≤ a))) s) : wpAny (model prog w) A (compareOp .GtE (.int a t) (.bool p)) Q E s := by
  show wpAny _ _ (richCompare .GtE (.int a t) (.bool p)) Q E s
  exact rc_sub_first_or (typeIs_int s a t) rfl (by decide) F.sub_bool_int F.slot_bool_le_refl (call_gives F.slot_bool_le_refl rfl F.entry_int_le (F.args_int_le_2 _ _) (gv_le_bi p a t) ⟨nofun, h⟩) (.inl rfl)
theorem gt_ib (h : Q (.bool (decide (b2i p < a))) s) : wpAny (model prog w) A (compareOp .Gt (.int a t) (.bool p)) Q E s := by
  show wpAny _ _ (richCompare .Gt (.int a t) (.bool p)) Q E s
  exact rc_sub_first_or (typeIs_int s a t) rfl (by decide) F.sub_bool_int F.slot_bool_lt_refl (call_gives F.slot_bool_lt_refl rfl F.entry_int_lt (F.args_int_lt_2 _ _) (gv_lt_bi p a t) ⟨nofun, h⟩) (.inl rfl)
end
end
/-! ### comparisons -/
def cmpO (p : Int → Int → Bool) : Op2 := fun a b S => match a, b with
  | .p (.int i), .p (.int j) => some (.p (.bl (p i j)), S)
  | .p (.int i), .p (.bl b) => some (.p (.bl (p i (b2i b))), S)
  | .p (.bl b), .p (.int j) => some (.p (.bl (p (b2i b) j)), S)
  | .p (.bl b), .p (.bl c) => some (.p (.bl (p (b2i b) (b2i c))), S)
  | _, _ => none
mutual
/-- a value as data -/
def PV.data : PV → Option PyData
  | .non => some .none
  | .bl b => some (.bool b)
  | .int i => some (.int i)
  | .str x => some (.str x)
  | .tup xs => (PV.datas xs).map .tuple
  | .lst xs => (PV.datas xs).map .list
  | .fro xs => (PV.datas xs).map .list
  | .glob _ => none
def PV.datas : List PV → Option (List PyData)
  | [] => some []
  | x :: xs => (PV.data x).bind fun d => (PV.datas xs).map fun ds => d :: ds
end
def eqDat (d e : PyData) : Option Bool := if SeqAt.shaped d = true ∧ SeqAt.shaped e = true then some (PyData.eqv d e) else none
def dataOf : DV → AH → Option PyData
  | .p x, _ => x.data
  | .c n, S => match S[n]? with
    | some (.lst xs) => (PV.datas xs).map .list
    | _ => none
def eqO : Op2 := fun a b S => match dataOf a S, dataOf b S with
  | some d, some e => (eqDat d e).map fun k => (.p (.bl k), S)
  | _, _ => none
def neO : Op2 := fun a b S => match dataOf a S, dataOf b S with
  | some d, some e => (eqDat d e).map fun k => (.p (.bl (!k)), S)
  | _, _ => none
def isO : Op2 := fun a b S => match a, b with
  | .p x, .p .non => match x with
    | .non => some (.p (.bl true), S)
    | .glob _ => none
    | _ => some (.p (.bl false), S)
  | .p (.bl a), .p (.bl b) => some (.p (.bl (decide (a = b))), S)
  | _, _ => none
def isNotO : Op2 := fun a b S => match a, b with
  | .p x, .p .non => match x with
    | .non => some (.p (.bl false), S)
    | .glob _ => none
    | _ => some (.p (.bl true), S)
  | .p (.bl a), .p (.bl b) => some (.p (.bl (!decide (a = b))), S)
  | _, _ => none
section
variable {X : Cx}
/-- a comparison of numbers, truth values among them -/
structure CmpB (op : CmpOp) (p : Int → Int → Bool) : Prop where
  ib : ∀ {prog : Program} {w : World} {A : Around} {E : Value → Shared → Prop} {s : Shared} {a : Int} {t : Tok} {b : Bool} {Q : Value → Shared → Prop}, Q (.bool (p a (b2i b))) s → wpAny (model prog w) A (compareOp op (.int a t) (.bool b)) Q E s
  bi : ∀ {prog : Program} {w : World} {A : Around} {E : Value → Shared → Prop} {s : Shared} {a : Int} {t : Tok} {b : Bool} {Q : Value → Shared → Prop}, Q (.bool (p (b2i b) a)) s → wpAny (model prog w) A (compareOp op (.bool b) (.int a t)) Q E s
  bb : ∀ {prog : Program} {w : World} {A : Around} {E : Value → Shared → Prop} {s : Shared} {b c : Bool} {Q : Value → Shared → Prop}, Q (.bool (p (b2i b) (b2i c))) s → wpAny (model prog w) A (compareOp op (.bool b) (.bool c)) Q E s
theorem cmp_lt : CmpB .Lt (fun i j => decide (i < j)) := ⟨lt_ib, lt_bi, lt_bool⟩
theorem cmp_le : CmpB .LtE (fun i j => decide (i ≤ j)) := ⟨le_ib, le_bi, le_bool⟩
theorem cmp_gt : CmpB .Gt (fun i j => decide (j < i)) := ⟨gt_ib, gt_bi, gt_bool⟩
theorem cmp_ge : CmpB .GtE (fun i j => decide (j ≤ i)) := ⟨ge_ib, ge_bi, ge_bool⟩
theorem ow_cmp {op : CmpOp} {p : Int → Int → Bool} (h0 : OpR X (compareOp op) (rI0 fun i j => .bl (p i j))) (hb : CmpB op p) : OpR X (compareOp op) (rO (wd X) (cmpO p)) := by
  intro pins s σ H x y v u Q I rx ry h
  obtain ⟨as, S, d1, d2, sr, r1, r2, w⟩ := h
  unfold cmpO at w
  split at w
  · cases r1; cases r2
    exact h0 pins s σ H _ _ v u Q I rx ry ⟨_, _, rfl, rfl, w.here sr (.bl _)⟩
  · rename_i i b
    cases r1; cases r2
    obtain ⟨t, rfl⟩ := rx
    cases ry
    exact hb.ib ⟨.bl (p i (b2i b)), H, I, rfl, w.here sr (.bl _)⟩
  · rename_i b i
    cases r1; cases r2
    obtain ⟨t, rfl⟩ := ry
    cases rx
    exact hb.bi ⟨.bl (p (b2i b) i), H, I, rfl, w.here sr (.bl _)⟩
  · rename_i b c
    cases r1; cases r2
    cases rx; cases ry
    exact hb.bb ⟨.bl (p (b2i b) (b2i c)), H, I, rfl, w.here sr (.bl _)⟩
  · exact w.elim
theorem ow_lt : OpR X (compareOp .Lt) (rO (wd X) (cmpO fun i j => decide (i < j))) := ow_cmp op_lt cmp_lt
theorem ow_le : OpR X (compareOp .LtE) (rO (wd X) (cmpO fun i j => decide (i ≤ j))) := ow_cmp op_le cmp_le
theorem ow_gt : OpR X (compareOp .Gt) (rO (wd X) (cmpO fun i j => decide (j < i))) := ow_cmp op_gt cmp_gt
theorem ow_ge : OpR X (compareOp .GtE) (rO (wd X) (cmpO fun i j => decide (j ≤ i))) := ow_cmp op_ge cmp_ge
end
section
variable {M : Wd} {as : As} {H : Hp}
mutual
theorem PR.dp : ∀ {v : V} {p : PV} {d : PyData}, PR M as H v p → p.data = some d → Dp M.K H v d
  | _, _, _, .non, e => by simp [PV.data] at e; subst e; exact .non
  | _, _, _, .bl b, e => by simp [PV.data] at e; subst e; exact .bl b
  | _, _, _, .int i, e => by simp [PV.data] at e; subst e; exact .int i
  | _, _, _, .str x, e => by simp [PV.data] at e; subst e; exact .str x
  | _, _, _, .tup h t, e => by
    simp only [PV.data, Option.map_eq_some_iff] at e
    obtain ⟨ds, e1, rfl⟩ := e
    exact .tup h.sq (PRs.dp t e1)
  | _, _, _, .lst h t, e => by
    simp only [PV.data, Option.map_eq_some_iff] at e
    obtain ⟨ds, e1, rfl⟩ := e
    exact .lst h.sq (PRs.dp t e1)
  | _, _, _, .fro h t, e => by
    simp only [PV.data, Option.map_eq_some_iff] at e
    obtain ⟨ds, e1, rfl⟩ := e
    exact .lst h.sq (PRs.dp t e1)
  | _, _, _, .glob _ _, e => by simp [PV.data] at e
theorem PRs.dp : ∀ {vs : List V} {ps : List PV} {ds : List PyData}, PRs M as H vs ps → PV.datas ps = some ds → DpAll M.K H vs ds
  | _, _, _, .nil, e => by simp [PV.datas] at e; subst e; exact .nil
  | _, _, _, .cons h t, e => by
    simp only [PV.datas, Option.bind_eq_some_iff, Option.map_eq_some_iff] at e
    obtain ⟨d, e1, ds, e2, rfl⟩ := e
    exact .cons (PR.dp h e1) (PRs.dp t e2)
end
theorem dataOf_dp {S : AH} (sr : SR M as H S) {v : V} {d : DV} {x : PyData} (r : DVR M as H v d) (e : dataOf d S = some x) : Dp M.K H v x := by
  cases d with
  | p y => exact PR.dp r e
  | c n =>
    obtain ⟨a, ea, rfl⟩ := r
    simp only [dataOf] at e
    split at e
    · rename_i xs q
      obtain ⟨b, vs, eb, z, hb, t⟩ := sr.at q
      rw [ea] at eb; cases eb
      simp only [Option.map_eq_some_iff] at e
      obtain ⟨ds, e1, rfl⟩ := e
      exact .lst (.of hb) (PRs.dp t e1)
    · cases e
end
section
variable {X : Cx}
theorem ow_eq (hu : X.A.units + 64 < cLine) : OpR X (compareOp .Eq) (rO (wd X) eqO) := by
  intro pins s σ H x y v u Q I rx ry h
  obtain ⟨as, S, d1, d2, sr, r1, r2, w⟩ := h
  unfold eqO at w
  split at w
  · rename_i d e q1 q2
    unfold eqDat at w
    split at w
    · rename_i z
      exact op_eqD hu pins s σ H _ _ v u Q I rx ry ⟨d, e, dataOf_dp sr r1 q1, dataOf_dp sr r2 q2, z.1, z.2, w.here sr (.bl _)⟩
    · exact w.elim
  · exact w.elim
theorem ow_ne (hu : X.A.units + 64 < cLine) : OpR X (compareOp .NotEq) (rO (wd X) neO) := by
  intro pins s σ H x y v u Q I rx ry h
  obtain ⟨as, S, d1, d2, sr, r1, r2, w⟩ := h
  unfold neO at w
  split at w
  · rename_i d e q1 q2
    unfold eqDat at w
    split at w
    · rename_i z
      exact op_neD hu pins s σ H _ _ v u Q I rx ry ⟨d, e, dataOf_dp sr r1 q1, dataOf_dp sr r2 q2, z.1, z.2, w.here sr (.bl _)⟩
    · exact w.elim
  · exact w.elim
theorem PR.nonD {M : Wd} {as : As} {H : Hp} {v : V} {p : PV} (r : PR M as H v p) (n1 : p ≠ .non) (n2 : ∀ g, p ≠ .glob g) : v ≠ .non := by
  cases r with
  | non => exact absurd rfl n1
  | glob _ _ => exact absurd rfl (n2 _)
  | _ => exact fun z => nomatch z
theorem ow_is : OpR X (compareOp .Is) (rO (wd X) isO) := by
  intro pins s σ H x y v u Q I rx ry h
  obtain ⟨as, S, d1, d2, sr, r1, r2, w⟩ := h
  unfold isO at w
  split at w
  · cases r2
    split at w
    · cases r1
      exact op_isN pins s σ H _ _ v u Q I rx ry ⟨rfl, w.here sr (.bl _)⟩
    · exact w.elim
    · rename_i n1 n2
      have e := PR.nonD r1 (fun z => n1 z) (fun g z => n2 g z)
      refine op_isN pins s σ H _ _ v u Q I rx ry ⟨rfl, ?_⟩
      rw [decide_eq_false e]
      exact w.here sr (.bl _)
  · cases r1; cases r2
    exact op_isBl pins s σ H _ _ v u Q I rx ry ⟨_, _, rfl, rfl, w.here sr (.bl _)⟩
  · exact w.elim
theorem ow_isNot : OpR X (compareOp .IsNot) (rO (wd X) isNotO) := by
  intro pins s σ H x y v u Q I rx ry h
  obtain ⟨as, S, d1, d2, sr, r1, r2, w⟩ := h
  unfold isNotO at w
  split at w
  · cases r2
    split at w
    · cases r1
      exact op_notN pins s σ H _ _ v u Q I rx ry ⟨rfl, w.here sr (.bl _)⟩
    · exact w.elim
    · rename_i n1 n2
      have e := PR.nonD r1 (fun z => n1 z) (fun g z => n2 g z)
      refine op_notN pins s σ H _ _ v u Q I rx ry ⟨rfl, ?_⟩
      rw [decide_eq_false e]
      exact w.here sr (.bl _)
  · cases r1; cases r2
    exact op_notBl pins s σ H _ _ v u Q I rx ry ⟨_, _, rfl, rfl, w.here sr (.bl _)⟩
  · exact w.elim
end

/-! ### expressions -/
def dVar (i : Nat) : Sig → AH → Res DV := fun δ S => match δ[i]? with
  | some (some d) => .ok d S
  | _ => .bad
def dC (v : PV) : Sig → AH → Res DV := fun _ S => .ok (.p v) S
def dUn (o : Op1) (fa : Sig → AH → Res DV) : Sig → AH → Res DV := fun δ S => (fa δ S).bind fun a S => lift (o a S)
def dBin (o : Op2) (fa fb : Sig → AH → Res DV) : Sig → AH → Res DV := fun δ S => (fa δ S).bind fun a S => (fb δ S).bind fun b S => lift (o a b S)
def dNil : Sig → AH → Res (List DV) := fun _ S => .ok [] S
def dCons (fa : Sig → AH → Res DV) (fr : Sig → AH → Res (List DV)) : Sig → AH → Res (List DV) := fun δ S => (fa δ S).bind fun a S => (fr δ S).bind fun r S => .ok (a :: r) S
def dApp (o : OpN) (fa : Sig → AH → Res (List DV)) : Sig → AH → Res DV := fun δ S => (fa δ S).bind fun ds S => lift (o ds S)
section
variable {X : Cx} {E : L2.St → XK} {a b c : Expr} {es : List Expr} {pos : Pos} {fa fb fc : Sig → AH → Res DV} {fs : Sig → AH → Res (List DV)}
theorem de_var (i : Nat) {x : Str} (hN : X.N[i]? = some x := by rfl) (hv : Vis X.env.scope x := by first | exact Or.inl rfl | exact Or.inr (Or.inl rfl) | exact Or.inr (Or.inr rfl)) (hd : (x == ("__debug__" : Str)) = false := by decide)
    (hcd : (x == ("__classdict__" : Str)) = false := by decide) : DE X E (.Name x pos) (dVar i) := (pe_var hN hv hd hcd).imp fun σ H Q ⟨as, δ, S, sr, er, w⟩ => by
  unfold dVar at w
  split at w
  · rename_i d e
    obtain ⟨v, q, r⟩ := er.get i d e
    exact ⟨v, q, w.pure sr r⟩
  · exact w.elim
theorem de_con {v : V} {p : PV} (h : PE X a (tC v)) (r : ∀ as H, PR (wd X) as H v p) : DE X E a (dC p) := h.imp fun σ H Q ⟨as, δ, S, sr, er, w⟩ => WR.pure (b := v) w sr (r as H)
theorem de_int {i j} : DE X E (.Constant (.int i) j pos) (dC (.int i)) := de_con pe_int fun _ _ => .int _
theorem de_bl {i j} : DE X E (.Constant (.bool i) j pos) (dC (.bl i)) := de_con pe_bl fun _ _ => .bl _
theorem de_non {j} : DE X E (.Constant .none j pos) (dC .non) := de_con pe_non fun _ _ => .non
theorem de_str {x j} : DE X E (.Constant (.str x) j pos) (dC (.str x)) := de_con pe_str fun _ _ => .str _
/-- a constant of the module -/
theorem de_gint {x : Str} {i : Int} {t : Tok} (hg : Gl X x) (hm : X.mg x = some (.int i t)) (hd : (x == ("__debug__" : Str)) = false := by decide) : DE X E (.Name x pos) (dC (.int i)) := de_con (pe_glob (v := .int i) hg hm ⟨_, rfl⟩ hd) fun _ _ => .int _
/-- a def or a class of the module as a value -/
theorem de_glob {x : Str} {p : Addr} (hg : Gl X x) (hm : X.mg x = some (.ref p)) (hd : (x == ("__debug__" : Str)) = false := by decide) : DE X E (.Name x pos) (dC (.glob x)) := de_con (pe_glob (v := .ref p) hg hm rfl hd) fun _ _ => .glob hm rfl
theorem de_un {op : UnaryOp} {o : Op1} (ho : UnR X (unaryOp op) (rO1 (wd X) o)) (ha : DE X E a fa) : DE X E (.UnaryOp op a pos) (dUn o fa) := (pe_un ho ha).imp fun σ H Q ⟨as, δ, S, sr, er, w⟩ =>
  ⟨as, δ, S, sr, er, w.bind.mono fun _ _ _ _ _ _ _ _ _ ⟨as1, S1, d1, _, x1, s1, r1, w1⟩ => ⟨as1, S1, d1, s1, r1, w1.wo⟩⟩
theorem t2 {o : Op2} {σ : L2.St} {H : Hp} {Q : VK} {as : As} {δ : Sig} {S : AH} (sr : SR (wd X) as H S) (er : ER (wd X) as H σ δ) (w : WR (wd X) (E σ) (DVR (wd X)) as H (dBin o fa fb δ S) Q) : tOp (rO (wd X) o) (tD (wd X) E fa) (tD (wd X) E fb) σ H Q :=
  ⟨as, δ, S, sr, er, w.bind.mono fun _ _ _ _ _ _ _ _ _ ⟨as1, S1, d1, _, x1, s1, r1, w1⟩ => ⟨as1, δ, S1, s1, er.mono x1.w, w1.bind.mono fun _ _ _ _ _ _ _ _ _ ⟨as2, S2, d2, _, x2, s2, r2, w2⟩ => ⟨as2, S2, d1, d2, s2, r1.mono x2.w, r2, w2.wo⟩⟩⟩
theorem de_bin {op : Operator} {o : Op2} (ho : OpR X (binaryOp op) (rO (wd X) o)) (ha : DE X E a fa) (hb : DE X E b fb) : DE X E (.BinOp a op b pos) (dBin o fa fb) := (pe_op ho ha hb).imp fun σ H Q ⟨as, δ, S, sr, er, w⟩ => t2 sr er w
theorem de_cmp {op : CmpOp} {o : Op2} (ho : OpR X (compareOp op) (rO (wd X) o)) (ha : DE X E a fa) (hb : DE X E b fb) (hm : behindInMarks op b = false) : DE X E (.Compare a [op] [b] pos) (dBin o fa fb) := (pe_cmpR ho ha hb hm).imp fun σ H Q ⟨as, δ, S, sr, er, w⟩ => t2 sr er w
theorem da_nil : DA X E [] dNil := pa_nil.imp fun σ H Q ⟨as, δ, S, sr, er, w⟩ => WR.pure (b := ([] : List V)) w sr .nil
theorem da_cons (ha : DE X E a fa) (hr : DA X E es fs) (hs : starEach (a :: es) X.env = (false, eval a X.env) :: starEach es X.env := by rfl) : DA X E (a :: es) (dCons fa fs) := (pa_cons ha hr hs).imp fun σ H Q ⟨as, δ, S, sr, er, w⟩ =>
  ⟨as, δ, S, sr, er, w.bind.mono fun x _ _ _ _ _ _ _ _ ⟨as1, S1, d1, _, x1, s1, r1, w1⟩ => ⟨as1, δ, S1, s1, er.mono x1.w, w1.bind.mono fun _ _ _ _ _ _ _ _ _ ⟨as2, S2, ds, _, x2, s2, r2, w2⟩ => WR.pure w2 s2 (.cons (r1.mono x2.w) r2)⟩⟩
end
end
end DL
namespace DL
noncomputable section
open PySem PySem.Spec PyProof.Rows L2

/-! ### truth -/
def truD : DV → AH → Option Bool
  | .p .non, _ => some false
  | .p (.bl b), _ => some b
  | .p (.int i), _ => some (i != 0)
  | .p (.str x), _ => if x.length ≤ sizeLine then some ((x.length : Int) != 0) else none
  | d, S => (items d S).map fun xs => !xs.isEmpty
section
variable {M : Wd} {as : As} {H : Hp} {S : AH}
theorem truD_ok {d : DV} {v : V} {k : Bool} (h : SR M as H S) (r : DVR M as H v d) (e : truD d S = some k) : TruV M.K v H k := by
  have gen : ∀ {d : DV} {v : V} {k : Bool}, DVR M as H v d → (items d S).map (fun xs => !xs.isEmpty) = some k → TruV M.K v H k := fun {d v k} r e => by
    simp only [Option.map_eq_some_iff] at e
    obtain ⟨xs, e1, rfl⟩ := e
    obtain ⟨a, vs, rfl, z, q, t⟩ := items_sq h r e1
    have hh : xs.isEmpty = vs.isEmpty := by cases t <;> rfl
    rcases q with q | q
    · exact .inl ⟨vs, q, by rw [hh]⟩
    · exact .inr (.inl ⟨vs, q, by rw [hh]⟩)
  cases d with
  | c n => exact gen r e
  | p x =>
    cases x with
    | non => cases r; simp [truD] at e; subst e; rfl
    | bl b => cases r; simp [truD] at e; subst e; rfl
    | int i => cases r; simp only [truD, Option.some.injEq] at e; subst e; rfl
    | str x =>
      cases r
      simp only [truD] at e
      split at e
      · rename_i z
        cases e
        exact ⟨z, rfl⟩
      · cases e
    | glob n => simp [truD, items] at e
    | tup _ => exact gen r e
    | lst _ => exact gen r e
    | fro _ => exact gen r e
end
def dTru (fa : Sig → AH → Res DV) : Sig → AH → Res Bool := fun δ S => (fa δ S).bind fun a S => lift ((truD a S).map fun k => (k, S))
def dNot (fa : Sig → AH → Res Bool) : Sig → AH → Res Bool := fun δ S => (fa δ S).bind fun a S => .ok (!a) S
def dAnd (fa fb : Sig → AH → Res Bool) : Sig → AH → Res Bool := fun δ S => (fa δ S).bind fun a S => if a = true then fb δ S else .ok false S
def dOr (fa fb : Sig → AH → Res Bool) : Sig → AH → Res Bool := fun δ S => (fa δ S).bind fun a S => if a = true then .ok true S else fb δ S
def dAndV (fa fb : Sig → AH → Res DV) : Sig → AH → Res DV := fun δ S => (fa δ S).bind fun a S => match truD a S with
  | some k => if k = true then fb δ S else .ok a S
  | none => .bad
def dOrV (fa fb : Sig → AH → Res DV) : Sig → AH → Res DV := fun δ S => (fa δ S).bind fun a S => match truD a S with
  | some k => if k = true then .ok a S else fb δ S
  | none => .bad
def dNotV (fa : Sig → AH → Res DV) : Sig → AH → Res DV := fun δ S => (fa δ S).bind fun a S => lift ((truD a S).map fun k => (.p (.bl (!k)), S))
def dIte (fc : Sig → AH → Res Bool) (fa fb : Sig → AH → Res DV) : Sig → AH → Res DV := fun δ S => (fc δ S).bind fun c S => if c = true then fa δ S else fb δ S
/-- a op1 b op2 c -/
def dChain (o o' : Op2) (fa fb fc : Sig → AH → Res DV) : Sig → AH → Res DV := fun δ S => (fa δ S).bind fun a S => (fb δ S).bind fun b S => (lift (o a b S)).bind fun k S => match k with
  | .p (.bl true) => (fc δ S).bind fun c S => lift (o' b c S)
  | .p (.bl false) => .ok (.p (.bl false)) S
  | _ => .bad
def blOf (fa : Sig → AH → Res DV) : Sig → AH → Res Bool := fun δ S => (fa δ S).bind fun a S => match a with
  | .p (.bl k) => .ok k S
  | _ => .bad
section
variable {X : Cx} {E : L2.St → XK} {a b c : Expr} {es rest : List Expr} {pos : Pos} {fa fb fc : Sig → AH → Res DV} {ga gb : Sig → AH → Res Bool} {fs : Sig → AH → Res (List DV)}
theorem dt_tru (ha : DE X E a fa) (he : ∀ whole, isTrue a X.env whole = (do let v ← whole; standAt a.pos; holding [v] (truthy v)) := by intro _; rfl) : DT X E a (dTru fa) := (pt_truth ha he).imp fun σ H Q ⟨as, δ, S, sr, er, w⟩ =>
  ⟨as, δ, S, sr, er, w.bind.mono fun _ _ _ _ _ _ _ _ _ ⟨as1, S1, d1, _, x1, s1, r1, w1⟩ => by
    cases e : truD d1 S1 with
    | none => rw [e] at w1; exact w1.elim
    | some k =>
      rw [e] at w1
      exact ⟨k, truD_ok s1 r1 e, WR.pure (b := k) w1 s1 rfl⟩⟩
theorem dt_cmp {op : CmpOp} {o : Op2} (ho : OpR X (compareOp op) (rO (wd X) o)) (ha : DE X E a fa) (hb : DE X E b fb) (hm : behindInMarks op b = false) : DT X E (.Compare a [op] [b] pos) (blOf (dBin o fa fb)) := (pt_cmpR ho ha hb hm).imp fun σ H Q ⟨as, δ, S, sr, er, w⟩ => by
  refine t2 (Q := fun x H' => ∃ k, x = .bl k ∧ Q k H') sr er (w.bind.mono fun d _ _ _ x _ _ _ _ ⟨as1, S1, d1, _, x1, s1, r1, w1⟩ => ?_)
  split at w1
  · cases r1
    exact ⟨_, rfl, WR.pure (b := _) w1 s1 rfl⟩
  · exact w1.elim
theorem chain_t {o o' : Op2} {σ : L2.St} {H : Hp} {Q : VK} {as : As} {δ : Sig} {S : AH} (sr : SR (wd X) as H S) (er : ER (wd X) as H σ δ) (w : WR (wd X) (E σ) (DVR (wd X)) as H (dChain o o' fa fb fc δ S) Q) : tChain (rO (wd X) o) (rO (wd X) o') (tD (wd X) E fa) (tD (wd X) E fb) (tD (wd X) E fc) σ H Q := by
  refine ⟨as, δ, S, sr, er, w.bind.mono fun _ _ _ _ x _ _ _ _ ⟨as1, S1, d1, _, x1, s1, r1, w1⟩ => ?_⟩
  refine ⟨as1, δ, S1, s1, er.mono x1.w, w1.bind.mono fun _ _ _ _ y _ _ _ _ ⟨as2, S2, d2, _, x2, s2, r2, w2⟩ => ?_⟩
  refine ⟨as2, S2, d1, d2, s2, r1.mono x2.w, r2, ?_⟩
  have w2' := w2.bind (R := DVR (wd X))
  refine (WR.wo (E := E σ) (w2'.mono fun _ _ _ _ z _ _ _ _ ⟨as3, S3, d3, _, x3, s3, r3, w3⟩ => ?_))
  split at w3
  · cases r3
    refine ⟨true, rfl, ?_⟩
    rw [if_pos rfl]
    exact ⟨as3, δ, S3, s3, ((er.mono x1.w).mono x2.w).mono x3.w, w3.bind.mono fun _ _ _ _ _ _ _ _ _ ⟨as4, S4, d4, _, x4, s4, r4, w4⟩ => ⟨as4, S4, d2, d4, s4, (r2.mono x3.w).mono x4.w, r4, w4.wo⟩⟩
  · cases r3
    refine ⟨false, rfl, ?_⟩
    rw [if_neg Bool.false_ne_true]
    exact WR.pure w3 s3 (.bl false)
  · exact w3.elim
theorem de_chain {op op' : CmpOp} {o o' : Op2} (ho : OpR X (compareOp op) (rO (wd X) o)) (ho' : OpR X (compareOp op') (rO (wd X) o')) (ha : DE X E a fa) (hb : DE X E b fb) (hc : DE X E c fc)
    (hm : lastMarks [op, op'] [b, c] = false := by with_unfolding_all rfl) : DE X E (.Compare a [op, op'] [b, c] pos) (dChain o o' fa fb fc) := (pe_chain ho ho' ha hb hc hm).imp fun σ H Q ⟨as, δ, S, sr, er, w⟩ => chain_t sr er w
theorem dt_chain {op op' : CmpOp} {o o' : Op2} (ho : OpR X (compareOp op) (rO (wd X) o)) (ho' : OpR X (compareOp op') (rO (wd X) o')) (ha : DE X E a fa) (hb : DE X E b fb) (hc : DE X E c fc)
    (hm : lastMarks [op, op'] [b, c] = false := by with_unfolding_all rfl) : DT X E (.Compare a [op, op'] [b, c] pos) (blOf (dChain o o' fa fb fc)) := (pt_chain ho ho' ha hb hc hm).imp fun σ H Q ⟨as, δ, S, sr, er, w⟩ => by
  refine chain_t (Q := fun x H' => ∃ k, x = .bl k ∧ Q k H') sr er (w.bind.mono fun d _ _ _ x _ _ _ _ ⟨as1, S1, d1, _, x1, s1, r1, w1⟩ => ?_)
  split at w1
  · cases r1
    exact ⟨_, rfl, WR.pure (b := _) w1 s1 rfl⟩
  · exact w1.elim
theorem dt_not (ha : DT X E a ga) : DT X E (.UnaryOp .Not a pos) (dNot ga) := (pt_not ha).imp fun σ H Q ⟨as, δ, S, sr, er, w⟩ =>
  ⟨as, δ, S, sr, er, w.bind.mono fun _ _ _ _ _ _ _ _ _ ⟨as1, S1, d1, _, x1, s1, r1, w1⟩ => by cases r1; exact WR.pure (b := _) w1 s1 rfl⟩
theorem dw_and1 (ha : DT X E a ga) : DW X E (.BoolOp .And [a] pos) ga := pw_and1 ha
theorem dw_or1 (ha : DT X E a ga) : DW X E (.BoolOp .Or [a] pos) ga := pw_or1 ha
theorem dw_and (ha : DT X E a ga) (hb : DW X E (.BoolOp .And (b :: rest) pos) gb) : DW X E (.BoolOp .And (a :: b :: rest) pos) (dAnd ga gb) := (pw_and ha hb).imp fun σ H Q ⟨as, δ, S, sr, er, w⟩ =>
  ⟨as, δ, S, sr, er, w.bind.mono fun _ _ _ _ k _ _ _ _ ⟨as1, S1, d1, _, x1, s1, r1, w1⟩ => by
    cases r1
    cases k with
    | true => exact ⟨as1, δ, S1, s1, er.mono x1.w, w1⟩
    | false => exact WR.pure (b := _) w1 s1 rfl⟩
theorem dw_or (ha : DT X E a ga) (hb : DW X E (.BoolOp .Or (b :: rest) pos) gb) : DW X E (.BoolOp .Or (a :: b :: rest) pos) (dOr ga gb) := (pw_or ha hb).imp fun σ H Q ⟨as, δ, S, sr, er, w⟩ =>
  ⟨as, δ, S, sr, er, w.bind.mono fun _ _ _ _ k _ _ _ _ ⟨as1, S1, d1, _, x1, s1, r1, w1⟩ => by
    cases r1
    cases k with
    | true => exact WR.pure (b := _) w1 s1 rfl
    | false => exact ⟨as1, δ, S1, s1, er.mono x1.w, w1⟩⟩
theorem dt_w (h : DW X E a ga) : DT X E a ga := h.pt
theorem de_one {op : BoolOp} (ha : DE X E a fa) : DE X E (.BoolOp op [a] pos) fa := pe_one ha
theorem de_and (ha : DE X E a fa) (hb : DE X E (.BoolOp .And (b :: rest) pos) fb) : DE X E (.BoolOp .And (a :: b :: rest) pos) (dAndV fa fb) := (pe_andT ha hb).imp fun σ H Q ⟨as, δ, S, sr, er, w⟩ =>
  ⟨as, δ, S, sr, er, w.bind.mono fun _ _ _ _ _ _ _ _ _ ⟨as1, S1, d1, _, x1, s1, r1, w1⟩ => by
    split at w1
    · rename_i k e
      refine ⟨k, truD_ok s1 r1 e, ?_⟩
      split at w1
      · rename_i z
        rw [if_pos z]
        exact ⟨as1, δ, S1, s1, er.mono x1.w, w1⟩
      · rename_i z
        rw [if_neg z]
        exact WR.pure w1 s1 r1
    · exact w1.elim⟩
theorem de_or (ha : DE X E a fa) (hb : DE X E (.BoolOp .Or (b :: rest) pos) fb) : DE X E (.BoolOp .Or (a :: b :: rest) pos) (dOrV fa fb) := (pe_orT ha hb).imp fun σ H Q ⟨as, δ, S, sr, er, w⟩ =>
  ⟨as, δ, S, sr, er, w.bind.mono fun _ _ _ _ _ _ _ _ _ ⟨as1, S1, d1, _, x1, s1, r1, w1⟩ => by
    split at w1
    · rename_i k e
      refine ⟨k, truD_ok s1 r1 e, ?_⟩
      split at w1
      · rename_i z
        rw [if_pos z]
        exact WR.pure w1 s1 r1
      · rename_i z
        rw [if_neg z]
        exact ⟨as1, δ, S1, s1, er.mono x1.w, w1⟩
    · exact w1.elim⟩
theorem de_not (ha : DE X E a fa) : DE X E (.UnaryOp .Not a pos) (dNotV fa) := (pe_notT ha).imp fun σ H Q ⟨as, δ, S, sr, er, w⟩ =>
  ⟨as, δ, S, sr, er, w.bind.mono fun _ _ _ _ _ _ _ _ _ ⟨as1, S1, d1, _, x1, s1, r1, w1⟩ => by
    cases e : truD d1 S1 with
    | none => rw [e] at w1; exact w1.elim
    | some k =>
      rw [e] at w1
      exact ⟨k, truD_ok s1 r1 e, WR.pure w1 s1 (.bl _)⟩⟩
theorem de_ite (hc : DT X E c ga) (ha : DE X E a fa) (hb : DE X E b fb) : DE X E (.IfExp c a b pos) (dIte ga fa fb) := (pe_ifExp hc ha hb).imp fun σ H Q ⟨as, δ, S, sr, er, w⟩ =>
  ⟨as, δ, S, sr, er, w.bind.mono fun _ _ _ _ k _ _ _ _ ⟨as1, S1, d1, _, x1, s1, r1, w1⟩ => by
    cases r1
    cases k with
    | true => exact ⟨as1, δ, S1, s1, er.mono x1.w, w1⟩
    | false => exact ⟨as1, δ, S1, s1, er.mono x1.w, w1⟩⟩
end

/-! ### displays -/
def pvs : List DV → Option (List PV)
  | [] => some []
  | .p x :: r => (pvs r).map fun t => x :: t
  | .c _ :: _ => none
theorem pvs_ok {M : Wd} {as : As} {H : Hp} : ∀ {ds : List DV} {vs : List V} {ps : List PV}, DVRs M as H vs ds → pvs ds = some ps → PRs M as H vs ps
  | [], _, _, .nil, e => by cases e; exact .nil
  | .p x :: r, _, _, .cons h t, e => by
    simp only [pvs, Option.map_eq_some_iff] at e
    obtain ⟨qs, e1, rfl⟩ := e
    exact .cons h (pvs_ok t e1)
  | .c _ :: _, _, _, _, e => by cases e
def dTup (fs : Sig → AH → Res (List DV)) : Sig → AH → Res DV := fun δ S => (fs δ S).bind fun ds S => match pvs ds with
  | some ps => if ps.length ≤ 1000 then .ok (.p (.tup ps)) S else .bad
  | none => .bad
def dLst (fs : Sig → AH → Res (List DV)) : Sig → AH → Res (List PV) := fun δ S => (fs δ S).bind fun ds S => match pvs ds with
  | some ps => if ps.length ≤ 1000 then .ok ps S else .bad
  | none => .bad
theorem le1000 {n : Nat} (h : n ≤ 1000) : n ≤ sizeLine := Nat.le_trans h (by decide)
/-- a new list -/
def WF (M : Wd) (E : XK) (as : As) (H : Hp) (r : Res (List PV)) (Q : VK) : Prop := match r with
  | .ok ps S' => ∀ as' H' p vs, Ext as H as' H' → SR M as' H' S' → vs.length ≤ sizeLine → PRs M as' H' vs ps → H' p = none → Q (.ref p) (upd H' p (.lst vs))
  | .exc c p S' => ∀ as' H' cls dd, Ext as H as' H' → SR M as' H' S' → ExR M as' H' c p cls dd → E cls dd H'
  | .bad => False
def tF (M : Wd) (E : L2.St → XK) (f : Sig → AH → Res (List PV)) : TE := fun σ H Q => ∃ as δ S, SR M as H S ∧ ER M as H σ δ ∧ WF M (E σ) as H (f δ S) Q
abbrev FE (X : Cx) (E : L2.St → XK) (e : Expr) (f : Sig → AH → Res (List PV)) : Prop := PE X e (tF (wd X) E f)
def dVal (f : Sig → AH → Res (List PV)) : Sig → AH → Res DV := fun δ S => (f δ S).bind fun ps S => .ok (.p (.lst ps)) S
def dCell (f : Sig → AH → Res (List PV)) : Sig → AH → Res DV := fun δ S => (f δ S).bind fun ps S => .ok (.c S.length) (S ++ [.lst ps])
section
variable {M : Wd} {E0 : XK} {as as' : As} {H H' : Hp} {α β : Type} {R : As → Hp → β → α → Prop}
theorem WF.later {r : Res (List PV)} {Q : VK} (x : Ext as H as' H') (w : WF M E0 as H r Q) : WF M E0 as' H' r Q := by
  cases r with
  | ok a S => exact fun as2 H2 p vs e => w as2 H2 p vs (x.trans e)
  | exc c p S => exact fun as2 H2 cls dd e => w as2 H2 cls dd (x.trans e)
  | bad => exact w
theorem WF.bind {r : Res α} {k : α → AH → Res (List PV)} {Q : VK} (w : WF M E0 as H (r.bind k) Q) :
    WR M E0 R as H r (fun b H1 => ∃ as1 S1 a, r = .ok a S1 ∧ Ext as H as1 H1 ∧ SR M as1 H1 S1 ∧ R as1 H1 b a ∧ WF M E0 as1 H1 (k a S1) Q) := by
  cases r with
  | ok a S => exact fun as2 H2 b e s q => ⟨as2, S, a, rfl, e, s, q, WF.later e w⟩
  | exc c p S => exact w
  | bad => exact w
theorem WF.here {S : AH} {ps : List PV} {Q : VK} {p : Addr} {vs : List V} (w : WF M E0 as H (.ok ps S) Q) (s : SR M as H S) (z : vs.length ≤ sizeLine) (r : PRs M as H vs ps) (n : H p = none) : Q (.ref p) (upd H p (.lst vs)) := w as H p vs (Ext.refl _ _) s z r n
/-- from a value's or a cell's reading -/
theorem WF.val {r : Res (List PV)} {Q : VK} (w : WR M E0 (DVR M) as H (r.bind fun ps S => .ok (.p (.lst ps)) S) Q) : WF M E0 as H r Q := by
  cases r with
  | ok ps S => exact fun as2 H2 p vs e s z t n => w as2 _ _ (e.trans (ext_new s n)) (s.new n) (PR.lst ⟨z, upd_same, s.fresh n⟩ (t.mono (ext_new s n).w))
  | exc c p S => exact w
  | bad => exact w
theorem WF.cell {r : Res (List PV)} {Q : VK} (w : WR M E0 (DVR M) as H (r.bind fun ps S => .ok (.c S.length) (S ++ [.lst ps])) Q) : WF M E0 as H r Q := by
  cases r with
  | ok ps S => exact fun as2 H2 p vs e s z t n => w (as2.add p) _ _ (e.trans (ext_cell s n)) (s.newCell n z t) ⟨p, by rw [← s.len]; simp [As.add], rfl⟩
  | exc c p S => exact w
  | bad => exact w
end
section
variable {X : Cx} {E : L2.St → XK} {e a b c : Expr} {es rest : List Expr} {pos : Pos} {fa fb fc : Sig → AH → Res DV} {fs : Sig → AH → Res (List DV)} {f : Sig → AH → Res (List PV)}
theorem de_val (h : FE X E e f) : DE X E e (dVal f) := h.imp fun σ H Q ⟨as, δ, S, sr, er, w⟩ => ⟨as, δ, S, sr, er, WF.val w⟩
theorem de_cell (h : FE X E e f) : DE X E e (dCell f) := h.imp fun σ H Q ⟨as, δ, S, sr, er, w⟩ => ⟨as, δ, S, sr, er, WF.cell w⟩
theorem de_tup {k} (h : DA X E es fs) : DE X E (.Tuple es k pos) (dTup fs) := (pe_tupZ h).imp fun σ H Q ⟨as, δ, S, sr, er, w⟩ =>
  ⟨as, δ, S, sr, er, w.bind.mono fun _ _ _ _ vs _ _ _ _ ⟨as1, S1, d1, _, x1, s1, r1, w1⟩ => by
    split at w1
    · rename_i ps e
      have t := pvs_ok r1 e
      split at w1
      · rename_i z
        have z2 : vs.length ≤ sizeLine := by rw [t.length]; exact le1000 z
        exact ⟨z2, WO.tup (ps := ps) (S := S1) (fun as' H' b => w1 as' H' b) s1 z2 t⟩
      · exact w1.elim
    · exact w1.elim⟩
theorem fe_lst (h : DA X E es fs) : FE X E (.List es pos) (dLst fs) := (pe_lst h).imp fun σ H Q ⟨as, δ, S, sr, er, w⟩ =>
  ⟨as, δ, S, sr, er, (WF.bind w).mono fun _ _ _ _ vs _ _ _ _ ⟨as1, S1, d1, _, x1, s1, r1, w1⟩ => by
    split at w1
    · rename_i ps e
      have t := pvs_ok r1 e
      split at w1
      · rename_i z
        have z2 : vs.length ≤ sizeLine := by rw [t.length]; exact le1000 z
        exact ⟨z2, fun p n => w1.here s1 z2 t n⟩
      · exact w1.elim
    · exact w1.elim⟩
end
end
end DL
namespace SrtT
open PySem PyProof.Rows Srt SrtO
variable {prog : Program} {w : World} {A : Around} {E : Value → Shared → Prop} {s : Shared}
/-- the items of a tuple, gathered -/
theorem gather_tup {tp : Addr} {us : List Value} {R : List Value → Shared → Prop} (ht : IsTup s.heap tp us.toArray)
    (h : R us { s with heap := (s.heap.push (seqObj "list" #[] 0)).update s.heap.objs.size (Obj.mapSeq (· ++ us.toArray)) }) (hz : us.length ≤ sizeLine) :
    wpAny (model prog w) A (collect (.ref tp)) R E s := by
  obtain ⟨ob, g1, g2, m, g3⟩ := id ht
  unfold collect
  refine wpAny_bind (wpAny_runValue (codeAny_builtin entry_proto_collect' ?_)); show wpAny _ _ (do again (.builtin "list.__iadd__" ⟨[← newList [], .ref tp], []⟩)) _ _ s
  refine wpAny_bind (wpAny_newList (wpAny_pure ⟨Code.quiet_builtin _ (by decide +kernel), codeAny_builtin entry_list_iadd' ?_⟩)); show wpAny _ _ (Builtin.List.listExtendWith (.ref s.heap.objs.size) (.ref tp) (.ref s.heap.objs.size)) _ _ { s with heap := s.heap.push (seqObj "list" #[] 0) }
  unfold Builtin.List.listExtendWith
  have g1' : (s.heap.push (seqObj "list" #[] 0)).get? tp = some ob := Heap.get?_push_of_some _ g1
  refine wpAny_bind (wpAny_typeOf (T := "tuple") ⟨ob, g1', g2⟩ ?_)
  have ty : (Value.type "tuple" == Value.type "tuple") = true := by rfl
  rw [if_pos (by rw [ty]; simp)]
  refine wpAny_bind (listItems_at g1' g3 ?_)
  refine wpAny_bind (listItems_at (xs := #[]) (n := 0) (Heap.get?_push_size _ rfl) rfl ?_); rw [if_neg (by simp)]
  refine wpAny_bind (listUpdate_at (xs := #[]) (n := 0) (Heap.get?_push_size _ rfl) rfl ?_ (Nat.zero_le _) (by show (#[] ++ us.toArray).size ≤ sizeLine + 1; simp only [Array.size_append, List.size_toArray, List.length_nil]; omega))
  refine wpAny_pure ?_
  show wpAny (model prog w) A (do
      let ob ← load s.heap.objs.size
      match ob.data with
      | .seq ys _ => pure ys.toList
      | _ => unsupported "internal:collect") R E { s with heap := (s.heap.push (seqObj "list" #[] 0)).update s.heap.objs.size (Obj.mapSeq (· ++ us.toArray)) }
  refine wpAny_bind (wpAny_load (get?_update_seq (Heap.get?_push_size _ rfl) _) ?_); show wpAny _ _ (pure ((#[] : Array Value) ++ us.toArray).toList) R E _
  rw [show ((#[] : Array Value) ++ us.toArray).toList = us by simp]
  exact wpAny_pure h
/-- sorted(t) of a tuple -/
theorem sorted_tup {tp : Addr} {us : List Value} {ltv : Value → Value → Bool} {R : Value → Shared → Prop} (O : Swo ltv) (ht : IsTup s.heap tp us.toArray) (hz : us.length ≤ sizeLine)
    (hS : 2 ≤ us.length → ∀ (h₁ : Heap) (b : Addr), h₁.get? b = some (seqObj "list" us.toArray 0) → (∀ c o, s.heap.get? c = some o → c ≠ b ∧ h₁.get? c = some o) → SortableO prog w A.in1.in1 { s with heap := h₁ } b us ltv)
    (h : ∀ out : List Value, Srtd ltv out → Stb ltv out us → R (.ref (s.heap.objs.size + 1)) { s with heap := sortedAll s.heap us out.toArray }) :
    wpAny (model prog w) A (call (.builtin "sorted") [.ref tp]) R E s := by
  refine Calls.call_function_entry kind_sorted plain_sorted entry_sorted (args_sorted1 _) ?_; unfold Builtin.«sorted»
  refine wpAny_bind (m := checkCount "sorted" 1 1 _) (wpAny_pure ?_); refine wpAny_bind (gather_tup ht ?_ hz)
  refine wpAny_bind (wpAny_newList ?_ hz)
  have sz : ((s.heap.push (seqObj "list" #[] 0)).update s.heap.objs.size (Obj.mapSeq (· ++ us.toArray))).objs.size = s.heap.objs.size + 1 := by rw [Heap.size_update, size_push']
  have oL : (((s.heap.push (seqObj "list" #[] 0)).update s.heap.objs.size (Obj.mapSeq (· ++ us.toArray))).push (seqObj "list" us.toArray 0)).get? (s.heap.objs.size + 1) = some (seqObj "list" us.toArray 0) := by rw [← sz]; exact Heap.get?_push_size _ rfl
  have kp : ∀ c o, s.heap.get? c = some o → c ≠ s.heap.objs.size + 1 ∧ (((s.heap.push (seqObj "list" #[] 0)).update s.heap.objs.size (Obj.mapSeq (· ++ us.toArray))).push (seqObj "list" us.toArray 0)).get? c = some o := fun c o q => by
    have lt : c < s.heap.objs.size := Heap.lt_size q
    refine ⟨Nat.ne_of_lt (Nat.lt_succ_of_lt lt), Heap.get?_push_of_some _ ?_⟩
    rw [Heap.get?_update_ne _ _ _ _ (Nat.ne_of_lt lt)]; exact Heap.get?_push_of_some _ q
  show wpAny _ _ _ _ _ { s with heap := ((s.heap.push (seqObj "list" #[] 0)).update s.heap.objs.size (Obj.mapSeq (· ++ us.toArray))).push (seqObj "list" us.toArray 0) }
  rw [sz]
  refine wpAny_bind (wpAny_holding (wpAny_call_entry slot_list_sort ⟨_, oL, rfl⟩ entry_list_sort (list_sort_ord O oL hz (fun h2 => hS h2 _ _ oL kp) fun out hs hb => ⟨_, rfl, ?_⟩) (args_list_sort _)))
  exact wpAny_pure ⟨_, rfl, h out hs hb⟩
end SrtT
namespace L2
open PySem PySem.Spec PyProof.Rows
def rSortedTI (K : PySem.W.Frag) : List V → Hp → VK → Prop := fun vs H Q => ∃ (a : Addr) (ns : List Int), vs = [V.ref a] ∧ SqT K H a (ns.map V.int) ∧
  ∀ (ms : List Int) (p : Addr), ms.Perm ns → ms.Pairwise (· ≤ ·) → H p = none → Q (.ref p) (upd H p (.lst (ms.map V.int)))
variable {X : Cx}
theorem cr_sortedTI : CallR X (.builtin "sorted") (rSortedTI X.K) := by
  intro pins s σ H vs us Q I r h
  obtain ⟨tp, ns, rfl, hs, q⟩ := h
  obtain ⟨its, rv, hl, hz⟩ := I.tuple hs
  rw [Vals.ref1 r]
  have hi := rv.ints
  refine SrtT.sorted_tup SrtO.swo_int hl (by rw [← rv.length]; exact hz) (fun h2 h₁ b _ _ => SrtO.ints_sortable hi h2) fun out h1 h2 => ?_
  obtain ⟨k1, k2, k3⟩ := SrtO.ints_out hi h1 h2
  obtain ⟨ep, he⟩ := PyProof.Rows.sortedAll_at s.heap its out.toArray
  have hn : ((out.map SrtO.iv).map V.int).length ≤ sizeLine := by rw [List.length_map, k2.length_eq]; rw [List.length_map] at hz; exact hz
  refine ⟨.ref _, upd H (s.heap.objs.size + 1) (.lst ((out.map SrtO.iv).map V.int)), ?_, rfl, q _ _ k2 k3 (I.hok.fresh (Nat.le_succ _))⟩
  exact I.laid (t' := s.toks) (fun _ _ => PyProof.Rows.sortedAll_old) (Nat.le_succ _) ⟨hn, out, ep, vals_of_ints k1, he⟩
end L2
namespace DL
noncomputable section
open PySem PySem.Spec PyProof.Rows L2

/-! ### subscripts -/
def ixO : Op2 := fun a b S => match b with
  | .p (.int i) => match a with
    | .p (.str z) => if z.length ≤ sizeLine then (atI z.cps.toList i).map fun c => (.p (.str ⟨#[c]⟩), S) else none
    | _ => match items a S with
      | some xs => (atI xs i).map fun x => (.p x, S)
      | none => match nitems a S with
        | some ks => (atI ks i).map fun k => (.c k, S)
        | none => none
  | _ => none
theorem atI_krs {as : As} {vs : List V} {ks : List Nat} {i : Int} {k : Nat} (t : KRs as vs ks) (e : atI ks i = some k) : ∃ v, atI vs i = some v ∧ ∃ b, as.cells[k]? = some b ∧ v = .ref b := by
  unfold atI at e ⊢
  rw [t.length]
  cases q : ixN ks.length i with
  | none => rw [q] at e; cases e
  | some j =>
    rw [q] at e
    exact t.get e
theorem atI_prs {M : Wd} {as : As} {H : Hp} {vs : List V} {ps : List PV} {i : Int} {p : PV} (t : PRs M as H vs ps) (e : atI ps i = some p) : ∃ v, atI vs i = some v ∧ PR M as H v p := by
  unfold atI at e ⊢
  rw [t.length]
  cases q : ixN ps.length i with
  | none => rw [q] at e; cases e
  | some j =>
    rw [q] at e
    exact t.get e
theorem ow_ix {X : Cx} : IxR X (rO (wd X) ixO) := by
  intro value slice pins s σ H x y v u Q I rx ry h hs
  obtain ⟨as, S, d1, d2, sr, r1, r2, w⟩ := h
  unfold ixO at w
  split at w
  · cases r2
    split at w
    · cases r1
      split at w
      · rename_i z
        revert w
        generalize e : atI _ _ = o
        intro w
        cases o with
        | none => exact w.elim
        | some c => exact ix_str value slice pins s σ H _ _ v u Q I rx ry ⟨_, _, c, rfl, rfl, z, e, w.here sr (.str _)⟩ hs
      · exact w.elim
    · split at w
      · rename_i xs e1
        revert w
        generalize e : atI _ _ = o
        intro w
        cases o with
        | none => exact w.elim
        | some c =>
          obtain ⟨a, vs, rfl, z, q, t⟩ := items_sq sr r1 e1
          obtain ⟨z, e2, r⟩ := atI_prs t e
          rcases q with q | q
          · exact ix_list value slice pins s σ H _ _ v u Q I rx ry ⟨_, _, _, z, rfl, rfl, q, e2, w.here sr r⟩ hs
          · exact ix_tup value slice pins s σ H _ _ v u Q I rx ry ⟨_, _, _, z, rfl, rfl, q, e2, w.here sr r⟩ hs
      · split at w
        · rename_i ks e1
          revert w
          generalize e : atI _ _ = o
          intro w
          cases o with
          | none => exact w.elim
          | some k =>
            obtain ⟨a, vs, rfl, z, q, t⟩ := nitems_sq sr r1 e1
            obtain ⟨z, e2, b, eb, rfl⟩ := atI_krs t e
            exact ix_list value slice pins s σ H _ _ v u Q I rx ry ⟨_, _, _, _, rfl, rfl, .of q, e2, w.here sr ⟨b, eb, rfl⟩⟩ hs
        · exact w.elim
  · exact w.elim
section
variable {X : Cx} {E : L2.St → XK} {a b c : Expr} {es : List Expr} {pos : Pos} {fa fb fc : Sig → AH → Res DV} {fs : Sig → AH → Res (List DV)}
theorem de_ix (ha : DE X E a fa) (hb : DE X E b fb) (hs : PlainIx b) : DE X E (.Subscript a b pos) (dBin ixO fa fb) := (pe_ix ow_ix ha hb hs).imp fun σ H Q ⟨as, δ, S, sr, er, w⟩ => t2 sr er w
end

/-- the items of a list -/
def litems : DV → AH → Option (List PV)
  | .p (.lst xs), _ => some xs
  | .p (.fro xs), _ => some xs
  | .c n, S => match S[n]? with
    | some (.lst xs) => some xs
    | _ => none
  | _, _ => none
theorem litems_sq {M : Wd} {as : As} {H : Hp} {S : AH} {d : DV} {v : V} {xs : List PV} (h : SR M as H S) (r : DVR M as H v d) (e : litems d S = some xs) : ∃ a vs, v = .ref a ∧ vs.length ≤ sizeLine ∧ SqL M.K H a vs ∧ PRs M as H vs xs := by
  cases d with
  | p x =>
    cases x with
    | lst ys => cases e; cases r with | lst h t => exact ⟨_, _, rfl, h.1, h.sq, t⟩
    | fro ys => cases e; cases r with | fro h t => exact ⟨_, _, rfl, h.1, h.sq, t⟩
    | _ => cases e
  | c n =>
    obtain ⟨a, ea, rfl⟩ := r
    simp only [litems] at e
    split at e
    · rename_i ys q
      cases e
      obtain ⟨b, vs, eb, z, hb, t⟩ := h.at q
      rw [ea] at eb; cases eb
      exact ⟨_, _, rfl, z, .of hb, t⟩
    · cases e

/-! ### slices -/
def cutL {α : Type} (xs : List α) (lo hi : Option Int) : List α := (xs.drop (HT.sIx xs.length 0 lo)).take (HT.sIx xs.length xs.length hi - HT.sIx xs.length 0 lo)
def slO (a : DV) (lo hi : Option Int) (S : AH) : Option (DV × AH) := match a with
  | .p (.str z) => if z.length ≤ sizeLine then some (.p (.str (cutS z lo hi)), S) else none
  | .p (.tup xs) => some (.p (.tup (cutL xs lo hi)), S)
  | _ => match litems a S with
    | some xs => some (.p (.lst (cutL xs lo hi)), S)
    | none => none
def tDO (M : Wd) (E : L2.St → XK) (f : Sig → AH → Res (Option Int)) : TO := fun σ H Q => ∃ as δ S, SR M as H S ∧ ER M as H σ δ ∧ WR M (E σ) RB as H (f δ S) Q
abbrev DP (X : Cx) (E : L2.St → XK) (e : Option Expr) (f : Sig → AH → Res (Option Int)) : Prop := PO X e (tDO (wd X) E f)
theorem PO.imp {X : Cx} {e : Option Expr} {t t' : TO} (h : PO X e t) (i : ∀ σ H Q, t' σ H Q → t σ H Q) : PO X e t' := ⟨fun pins s σ H Q I q => h.run pins s σ H Q I (i σ H Q q)⟩
def dNoPart : Sig → AH → Res (Option Int) := fun _ S => .ok none S
def dPart (fa : Sig → AH → Res DV) : Sig → AH → Res (Option Int) := fun δ S => (fa δ S).bind fun a S => match a with
  | .p (.int i) => .ok (some i) S
  | _ => .bad
def dSl (fa : Sig → AH → Res DV) (fl fh : Sig → AH → Res (Option Int)) : Sig → AH → Res DV := fun δ S => (fa δ S).bind fun a S => (fl δ S).bind fun l S => (fh δ S).bind fun h S => lift (slO a l h S)
theorem cutV_prs {M : Wd} {as : As} {H : Hp} {vs : List V} {ps : List PV} (t : PRs M as H vs ps) (lo hi : Option Int) : PRs M as H (cutV vs lo hi) (cutL ps lo hi) := by
  unfold cutV cutL
  rw [t.length]
  exact (t.drop _).take _
theorem cutV_len (vs : List V) (lo hi : Option Int) : (cutV vs lo hi).length ≤ vs.length := by
  unfold cutV
  rw [List.length_take, List.length_drop]
  omega
theorem cut_whole {α : Type} (xs : List α) {lo hi : Option Int} (h : HT.sIx xs.length 0 lo = 0 ∧ HT.sIx xs.length xs.length hi = xs.length) : cutL xs lo hi = xs := by
  unfold cutL
  rw [h.1, h.2, List.drop_zero, Nat.sub_zero, List.take_length]
def rSlD (M : Wd) : V → Option Int → Option Int → Hp → VK → Prop := fun x lo hi H Q => ∃ as S d, SR M as H S ∧ DVR M as H x d ∧ WO M as H (slO d lo hi S) Q
theorem ow_sl {X : Cx} : L2.SlR X (rSlD (wd X)) := by
  intro pins s σ H x v vl vu lo hi sl Q I rx hs pl pu h
  obtain ⟨as, S, d, sr, r, w⟩ := h
  unfold slO at w
  split at w
  · cases r
    split at w
    · rename_i z
      exact sl_str pins s σ H _ v vl vu lo hi sl Q I rx hs pl pu ⟨_, rfl, z, w.here sr (.str _)⟩
    · exact w.elim
  · cases r with
    | tup h1 t1 =>
      have hl := t1.length
      refine sl_tupZ pins s σ H _ v vl vu lo hi sl Q I rx hs pl pu ⟨_, _, rfl, h1.sq, fun e => ?_, fun e => ?_⟩
      · rw [hl] at e
        rw [cut_whole _ e] at w
        exact w.here sr (.tup h1 t1)
      · exact w.tup sr (Nat.le_trans (cutV_len _ _ _) h1.1) (cutV_prs t1 _ _)
  · split at w
    · rename_i xs e
      obtain ⟨a, vs, rfl, z, q, t⟩ := litems_sq sr r e
      exact sl_list pins s σ H _ v vl vu lo hi sl Q I rx hs pl pu ⟨_, _, rfl, q, fun p n => w.lst sr (Nat.le_trans (cutV_len _ _ _) z) (cutV_prs t _ _) n⟩
    · exact w.elim
section
variable {X : Cx} {E : L2.St → XK} {a b c : Expr} {es : List Expr} {pos p2 : Pos} {lo hi : Option Expr} {fa fb fc : Sig → AH → Res DV} {fs : Sig → AH → Res (List DV)} {fl fh : Sig → AH → Res (Option Int)}
theorem dp_none : DP X E none dNoPart := PO.imp po_none fun σ H Q ⟨as, δ, S, sr, er, w⟩ => WR.pure (b := none) w sr rfl
theorem dp_some (ha : DE X E a fa) : DP X E (some a) (dPart fa) := PO.imp (po_some ha) fun σ H Q ⟨as, δ, S, sr, er, w⟩ =>
  ⟨as, δ, S, sr, er, w.bind.mono fun _ _ _ _ _ _ _ _ _ ⟨as1, S1, d1, _, x1, s1, r1, w1⟩ => by
    split at w1
    · cases r1
      exact ⟨_, rfl, WR.pure (b := _) w1 s1 rfl⟩
    · exact w1.elim⟩
theorem de_sl (ha : DE X E a fa) (hl : DP X E lo fl) (hh : DP X E hi fh) : DE X E (.Subscript a (.Slice lo hi none p2) pos) (dSl fa fl fh) := (pe_slice ow_sl ha hl hh).imp fun σ H Q ⟨as, δ, S, sr, er, w⟩ =>
  ⟨as, δ, S, sr, er, w.bind.mono fun _ _ _ _ _ _ _ _ _ ⟨as1, S1, d1, _, x1, s1, r1, w1⟩ =>
    ⟨as1, δ, S1, s1, er.mono x1.w, w1.bind.mono fun _ _ _ _ _ _ _ _ _ ⟨as2, S2, d2, _, x2, s2, r2, w2⟩ =>
      ⟨as2, δ, S2, s2, (er.mono x1.w).mono x2.w, w2.bind.mono fun _ _ _ _ _ _ _ _ _ ⟨as3, S3, d3, _, x3, s3, r3, w3⟩ => by
        cases r2; cases r3
        exact ⟨as3, S3, d1, s3, (r1.mono x2.w).mono x3.w, w3.wo⟩⟩⟩⟩
end

/-! ### built-in functions and classes -/
section
variable {X : Cx} {E : L2.St → XK} {a b c : Expr} {es : List Expr} {p pos : Pos} {x : Str} {T id : String} {fa fb fc : Sig → AH → Res DV} {fs : Sig → AH → Res (List DV)} {o : OpN}
theorem tApp {σ : L2.St} {H : Hp} {Q : VK} {as : As} {δ : Sig} {S : AH} (sr : SR (wd X) as H S) (er : ER (wd X) as H σ δ) (w : WR (wd X) (E σ) (DVR (wd X)) as H (dApp o fs δ S) Q) : tCB (rON (wd X) o) (tDA (wd X) E fs) σ H Q :=
  ⟨as, δ, S, sr, er, w.bind.mono fun _ _ _ _ _ _ _ _ _ ⟨as1, S1, d1, _, x1, s1, r1, w1⟩ => ⟨as1, S1, d1, s1, r1, w1.wo⟩⟩
theorem de_callB (hc : CallR X (.builtin id) (rON (wd X) o)) (hg : Gl X x) (hm : X.mg x = none) (hv : bootBuiltins x = some (.builtin id)) (ha : DA X E (a :: es) fs) (hn : x ≠ "__name__" := by decide) (hdb : (x == ("__debug__" : Str)) = false := by decide)
    (he : starEach (a :: es) X.env = (false, eval a X.env) :: starEach es X.env := by rfl) (hpl : (backTo pos (starEach es X.env)).any (·.1) = false := by rfl) : DE X E (.Call (.Name x p) (a :: es) [] pos) (dApp o fs) := (pe_callB hc hg hm hv ha hn hdb he hpl).imp fun σ H Q ⟨as, δ, S, sr, er, w⟩ => tApp sr er w
theorem de_callTy (hc : CallR X (.type T) (rON (wd X) o)) (hg : Gl X x) (hm : X.mg x = none) (hv : bootBuiltins x = some (.type T)) (ha : DA X E (a :: es) fs) (hn : x ≠ "__name__" := by decide) (hdb : (x == ("__debug__" : Str)) = false := by decide)
    (he : starEach (a :: es) X.env = (false, eval a X.env) :: starEach es X.env := by rfl) (hpl : (backTo pos (starEach es X.env)).any (·.1) = false := by rfl) : DE X E (.Call (.Name x p) (a :: es) [] pos) (dApp o fs) := (pe_callTy hc hg hm hv ha hn hdb he hpl).imp fun σ H Q ⟨as, δ, S, sr, er, w⟩ => tApp sr er w
end
def intsOf : List PV → Option (List Int)
  | [] => some []
  | .int i :: r => (intsOf r).map fun t => i :: t
  | _ :: _ => none
def blsOf : List PV → Option (List Bool)
  | [] => some []
  | .bl i :: r => (blsOf r).map fun t => i :: t
  | _ :: _ => none
theorem intsOf_ok : ∀ {ps : List PV} {ns : List Int}, intsOf ps = some ns → ps = ns.map PV.int
  | [], _, e => by cases e; rfl
  | .int i :: r, ns, e => by
    simp only [intsOf, Option.map_eq_some_iff] at e
    obtain ⟨t, e1, rfl⟩ := e
    rw [intsOf_ok e1]; rfl
  | .non :: _, _, e => by cases e
  | .bl _ :: _, _, e => by cases e
  | .str _ :: _, _, e => by cases e
  | .tup _ :: _, _, e => by cases e
  | .lst _ :: _, _, e => by cases e
  | .fro _ :: _, _, e => by cases e
  | .glob _ :: _, _, e => by cases e
theorem intsOf_map (ns : List Int) : intsOf (ns.map PV.int) = some ns := by
  induction ns with
  | nil => rfl
  | cons n ns ih => simp [intsOf, ih]
theorem blsOf_ok : ∀ {ps : List PV} {ns : List Bool}, blsOf ps = some ns → ps = ns.map PV.bl
  | [], _, e => by cases e; rfl
  | .bl i :: r, ns, e => by
    simp only [blsOf, Option.map_eq_some_iff] at e
    obtain ⟨t, e1, rfl⟩ := e
    rw [blsOf_ok e1]; rfl
  | .non :: _, _, e => by cases e
  | .int _ :: _, _, e => by cases e
  | .str _ :: _, _, e => by cases e
  | .tup _ :: _, _, e => by cases e
  | .lst _ :: _, _, e => by cases e
  | .fro _ :: _, _, e => by cases e
  | .glob _ :: _, _, e => by cases e
theorem blsOf_map (ns : List Bool) : blsOf (ns.map PV.bl) = some ns := by
  induction ns with
  | nil => rfl
  | cons n ns ih => simp [blsOf, ih]
def lenO : OpN := fun ds S => match ds with
  | [.p (.str x)] => if x.length ≤ sizeLine then some (.p (.int x.length), S) else none
  | [d] => match items d S with
    | some xs => some (.p (.int xs.length), S)
    | none => match nitems d S with
      | some ks => some (.p (.int ks.length), S)
      | none => none
  | _ => none
def absO : OpN := fun ds S => match ds with
  | [.p (.int i)] => some (.p (.int (if i < 0 then -i else i)), S)
  | _ => none
def intO : OpN := fun ds S => match ds with
  | [.p (.int i)] => some (.p (.int i), S)
  | [.p (.bl k)] => some (.p (.int (if k then 1 else 0)), S)
  | _ => none
def maxI : List Int → Int
  | [] => 0
  | [a] => a
  | a :: r => max a (maxI r)
def minI : List Int → Int
  | [] => 0
  | [a] => a
  | a :: r => min a (minI r)
theorem maxI_mem : ∀ (ns : List Int), ns ≠ [] → maxI ns ∈ ns ∧ ∀ y ∈ ns, y ≤ maxI ns
  | [], h => absurd rfl h
  | [a], _ => ⟨List.mem_singleton.mpr rfl, fun y hy => by rw [List.mem_singleton.mp hy]; exact Int.le_refl _⟩
  | a :: b :: r, _ => by
    obtain ⟨h1, h2⟩ := maxI_mem (b :: r) (by simp)
    show max a (maxI (b :: r)) ∈ _ ∧ ∀ y ∈ _, y ≤ max a (maxI (b :: r))
    refine ⟨?_, fun y hy => ?_⟩
    · by_cases h : maxI (b :: r) ≤ a
      · rw [Int.max_eq_left h]; exact List.mem_cons_self
      · rw [Int.max_eq_right (by omega)]; exact List.mem_cons_of_mem _ h1
    · rcases List.mem_cons.mp hy with rfl | hy
      · omega
      · have := h2 y hy; omega
theorem minI_mem : ∀ (ns : List Int), ns ≠ [] → minI ns ∈ ns ∧ ∀ y ∈ ns, minI ns ≤ y
  | [], h => absurd rfl h
  | [a], _ => ⟨List.mem_singleton.mpr rfl, fun y hy => by rw [List.mem_singleton.mp hy]; exact Int.le_refl _⟩
  | a :: b :: r, _ => by
    obtain ⟨h1, h2⟩ := minI_mem (b :: r) (by simp)
    show min a (minI (b :: r)) ∈ _ ∧ ∀ y ∈ _, min a (minI (b :: r)) ≤ y
    refine ⟨?_, fun y hy => ?_⟩
    · by_cases h : a ≤ minI (b :: r)
      · rw [Int.min_eq_left h]; exact List.mem_cons_self
      · rw [Int.min_eq_right (by omega)]; exact List.mem_cons_of_mem _ h1
    · rcases List.mem_cons.mp hy with rfl | hy
      · omega
      · have := h2 y hy; omega
def maxO : OpN := fun ds S => match ds with
  | [.p (.int i), .p (.int j)] => some (.p (.int (if j > i then j else i)), S)
  | [d] => match litems d S with
    | some xs => match intsOf xs with
      | some ns => if ns ≠ [] then some (.p (.int (maxI ns)), S) else none
      | none => none
    | none => none
  | _ => none
def minO : OpN := fun ds S => match ds with
  | [.p (.int i), .p (.int j)] => some (.p (.int (if j < i then j else i)), S)
  | [d] => match litems d S with
    | some xs => match intsOf xs with
      | some ns => if ns ≠ [] then some (.p (.int (minI ns)), S) else none
      | none => none
    | none => none
  | _ => none
def sumO : OpN := fun ds S => match ds with
  | [d] => match items d S with
    | some xs => match intsOf xs with
      | some ns => some (.p (.int ns.sum), S)
      | none => none
    | none => none
  | _ => none
def allO : OpN := fun ds S => match ds with
  | [d] => match litems d S with
    | some xs => match blsOf xs with
      | some ns => some (.p (.bl (ns.all id)), S)
      | none => none
    | none => none
  | _ => none
def anyO : OpN := fun ds S => match ds with
  | [d] => match litems d S with
    | some xs => match blsOf xs with
      | some ns => some (.p (.bl (ns.any id)), S)
      | none => none
    | none => none
  | _ => none
def tupleO : OpN := fun ds S => match ds with
  | [d] => match items d S with
    | some xs => some (.p (.tup xs), S)
    | none => none
  | _ => none
theorem DVRs.one {M : Wd} {as : As} {H : Hp} {vs : List V} {d : DV} (r : DVRs M as H vs [d]) : ∃ v, vs = [v] ∧ DVR M as H v d := by
  cases r with
  | cons h t => cases t; exact ⟨_, rfl, h⟩
theorem DVRs.two {M : Wd} {as : As} {H : Hp} {vs : List V} {d e : DV} (r : DVRs M as H vs [d, e]) : ∃ v w, vs = [v, w] ∧ DVR M as H v d ∧ DVR M as H w e := by
  cases r with
  | cons h t =>
    obtain ⟨w, rfl, h2⟩ := DVRs.one t
    exact ⟨_, _, rfl, h, h2⟩
section
variable {X : Cx}
theorem ow_len : CallR X (.builtin "len") (rON (wd X) lenO) := by
  intro pins s σ H vs us Q I rv h
  obtain ⟨as, S, ds, sr, r, w⟩ := h
  unfold lenO at w
  split at w
  · obtain ⟨v, rfl, r1⟩ := DVRs.one r
    cases r1
    split at w
    · rename_i z
      exact call_len pins s σ H _ us Q I rv ⟨_, _, rfl, ⟨z, rfl⟩, w.here sr (.int _)⟩
    · exact w.elim
  · obtain ⟨v, rfl, r1⟩ := DVRs.one r
    split at w
    · rename_i xs e
      obtain ⟨a, vs, rfl, z, q, t⟩ := items_sq sr r1 e
      rw [← t.length] at w
      rcases q with q | q
      · exact call_len pins s σ H _ us Q I rv ⟨_, _, rfl, .inl ⟨vs, q, rfl⟩, w.here sr (.int _)⟩
      · exact call_len pins s σ H _ us Q I rv ⟨_, _, rfl, .inr ⟨vs, q, rfl⟩, w.here sr (.int _)⟩
    · split at w
      · rename_i ks e
        obtain ⟨a, vs, rfl, z, q, t⟩ := nitems_sq sr r1 e
        rw [← t.length] at w
        exact call_len pins s σ H _ us Q I rv ⟨_, _, rfl, .inl ⟨vs, .of q, rfl⟩, w.here sr (.int _)⟩
      · exact w.elim
  · exact w.elim
theorem ow_abs : CallR X (.builtin "abs") (rON (wd X) absO) := by
  intro pins s σ H vs us Q I rv h
  obtain ⟨as, S, ds, sr, r, w⟩ := h
  unfold absO at w
  split at w
  · obtain ⟨v, rfl, r1⟩ := DVRs.one r
    cases r1
    exact call_abs pins s σ H _ us Q I rv ⟨_, rfl, w.here sr (.int _)⟩
  · exact w.elim
theorem ow_int : CallR X (.type "int") (rON (wd X) intO) := by
  intro pins s σ H vs us Q I rv h
  obtain ⟨as, S, ds, sr, r, w⟩ := h
  unfold intO at w
  split at w
  · obtain ⟨v, rfl, r1⟩ := DVRs.one r
    cases r1
    exact call_int1 pins s σ H _ us Q I rv (.inl ⟨_, rfl, w.here sr (.int _)⟩)
  · obtain ⟨v, rfl, r1⟩ := DVRs.one r
    cases r1
    exact call_int1 pins s σ H _ us Q I rv (.inr ⟨_, rfl, w.here sr (.int _)⟩)
  · exact w.elim
theorem ow_max (hc : X.calm = true) : CallR X (.builtin "max") (rON (wd X) maxO) := by
  intro pins s σ H vs us Q I rv h
  obtain ⟨as, S, ds, sr, r, w⟩ := h
  unfold maxO at w
  split at w
  · obtain ⟨v, v2, rfl, r1, r2⟩ := DVRs.two r
    cases r1; cases r2
    exact call_max2 hc pins s σ H _ us Q I rv ⟨_, _, rfl, w.here sr (.int _)⟩
  · obtain ⟨v, rfl, r1⟩ := DVRs.one r
    split at w
    · rename_i xs e
      obtain ⟨a, vs, rfl, z, q, t⟩ := litems_sq sr r1 e
      split at w
      · rename_i ns e2
        rw [intsOf_ok e2] at t
        rw [t.ints] at q
        split at w
        · rename_i hne
          obtain ⟨g1, g2⟩ := maxI_mem ns hne
          refine cr_max hc pins s σ H _ us Q I rv ⟨a, ns, rfl, q, List.length_pos_iff.mpr hne, fun m h1 h2 => ?_⟩
          have e3 : m = maxI ns := Int.le_antisymm (g2 m h1) (h2 _ g1)
          subst e3
          exact w.here sr (.int _)
        · exact w.elim
      · exact w.elim
    · exact w.elim
  · exact w.elim
theorem ow_min (hc : X.calm = true) : CallR X (.builtin "min") (rON (wd X) minO) := by
  intro pins s σ H vs us Q I rv h
  obtain ⟨as, S, ds, sr, r, w⟩ := h
  unfold minO at w
  split at w
  · obtain ⟨v, v2, rfl, r1, r2⟩ := DVRs.two r
    cases r1; cases r2
    exact call_min2 hc pins s σ H _ us Q I rv ⟨_, _, rfl, w.here sr (.int _)⟩
  · obtain ⟨v, rfl, r1⟩ := DVRs.one r
    split at w
    · rename_i xs e
      obtain ⟨a, vs, rfl, z, q, t⟩ := litems_sq sr r1 e
      split at w
      · rename_i ns e2
        rw [intsOf_ok e2] at t
        rw [t.ints] at q
        split at w
        · rename_i hne
          obtain ⟨g1, g2⟩ := minI_mem ns hne
          refine cr_min hc pins s σ H _ us Q I rv ⟨a, ns, rfl, q, List.length_pos_iff.mpr hne, fun m h1 h2 => ?_⟩
          have e3 : m = minI ns := Int.le_antisymm (h2 _ g1) (g2 m h1)
          subst e3
          exact w.here sr (.int _)
        · exact w.elim
      · exact w.elim
    · exact w.elim
  · exact w.elim
/-- sum of a tuple -/
theorem cr_sumT (hc : X.calm = true) : CallR X (.builtin "sum") (fun vs H Q => ∃ (a : Addr) (ns : List Int), vs = [V.ref a] ∧ SqT X.K H a (ns.map V.int) ∧ Q (.int ns.sum) H) := by
  intro pins s σ H vs us Q I r h
  obtain ⟨a, ns, rfl, hs, q⟩ := h
  obtain ⟨its, rv, ht, _⟩ := I.tuple hs
  rw [Vals.ref1 r]
  have hi := rv.ints
  obtain ⟨xs, e⟩ := hi.allInts.items
  have hn : numsOf (intItems xs).toList = ns := by rw [← e]; exact hi.numsOf
  rw [nums_intItems] at hn
  have ht' : s.heap.IsTuple a its.toArray := ht
  rw [e] at ht'
  refine PySem.W.ktm_sumG (I.ok.hd hc) ht' fun h' tk t' hk => ?_
  rw [preSum_eq, List.take_of_length_le (by simp), hn]
  exact ⟨.int _, H, I.kept hk, ⟨_, rfl⟩, q⟩
theorem ow_sum (hc : X.calm = true) : CallR X (.builtin "sum") (rON (wd X) sumO) := by
  intro pins s σ H vs us Q I rv h
  obtain ⟨as, S, ds, sr, r, w⟩ := h
  unfold sumO at w
  split at w
  · obtain ⟨v, rfl, r1⟩ := DVRs.one r
    split at w
    · rename_i xs e
      obtain ⟨a, vs, rfl, z, q, t⟩ := items_sq sr r1 e
      split at w
      · rename_i ns e2
        rw [intsOf_ok e2] at t
        rw [t.ints] at q
        rcases q with q | q
        · exact cr_sum hc pins s σ H _ us Q I rv ⟨a, ns, rfl, q, w.here sr (.int _)⟩
        · exact cr_sumT hc pins s σ H _ us Q I rv ⟨a, ns, rfl, q, w.here sr (.int _)⟩
      · exact w.elim
    · exact w.elim
  · exact w.elim
theorem ow_all (hc : X.calm = true) : CallR X (.builtin "all") (rON (wd X) allO) := by
  intro pins s σ H vs us Q I rv h
  obtain ⟨as, S, ds, sr, r, w⟩ := h
  unfold allO at w
  split at w
  · obtain ⟨v, rfl, r1⟩ := DVRs.one r
    split at w
    · rename_i xs e
      obtain ⟨a, vs, rfl, z, q, t⟩ := litems_sq sr r1 e
      split at w
      · rename_i ns e2
        rw [blsOf_ok e2] at t
        rw [t.bls] at q
        exact cr_all hc pins s σ H _ us Q I rv ⟨a, ns, rfl, q, w.here sr (.bl _)⟩
      · exact w.elim
    · exact w.elim
  · exact w.elim
theorem ow_any (hc : X.calm = true) : CallR X (.builtin "any") (rON (wd X) anyO) := by
  intro pins s σ H vs us Q I rv h
  obtain ⟨as, S, ds, sr, r, w⟩ := h
  unfold anyO at w
  split at w
  · obtain ⟨v, rfl, r1⟩ := DVRs.one r
    split at w
    · rename_i xs e
      obtain ⟨a, vs, rfl, z, q, t⟩ := litems_sq sr r1 e
      split at w
      · rename_i ns e2
        rw [blsOf_ok e2] at t
        rw [t.bls] at q
        exact cr_any hc pins s σ H _ us Q I rv ⟨a, ns, rfl, q, w.here sr (.bl _)⟩
      · exact w.elim
    · exact w.elim
  · exact w.elim
theorem tup_or_lst {M : Wd} {as : As} {H : Hp} {S : AH} {d : DV} {v : V} {xs : List PV} (h : SR M as H S) (r : DVR M as H v d) (e : items d S = some xs) : d = .p (.tup xs) ∨ litems d S = some xs := by
  cases d with
  | p x => cases x <;> first | (cases e; exact .inl rfl) | (cases e; exact .inr rfl) | cases e
  | c n => exact .inr e
theorem ow_tuple : CallR X (.type "tuple") (rON (wd X) tupleO) := by
  intro pins s σ H vs us Q I rv h
  obtain ⟨as, S, ds, sr, r, w⟩ := h
  unfold tupleO at w
  split at w
  · obtain ⟨v, rfl, r1⟩ := DVRs.one r
    split at w
    · rename_i xs e
      rcases tup_or_lst sr r1 e with e | e
      · subst e
        cases r1 with
        | tup h1 t1 => exact call_tupZ pins s σ H _ us Q I rv ⟨_, _, rfl, .inr ⟨h1.sq, w.here sr (.tup h1 t1)⟩⟩
      · obtain ⟨a, vs, rfl, z, q, t⟩ := litems_sq sr r1 e
        exact call_tupZ pins s σ H _ us Q I rv ⟨_, _, rfl, .inl ⟨q, w.tup sr z t⟩⟩
    · exact w.elim
  · exact w.elim
end
/-- a built-in that gives a new list -/
abbrev OpF := List DV → AH → Option (List PV)
def rFN (M : Wd) (o : OpF) : List V → Hp → VK → Prop := fun vs H Q => ∃ as S ds ps, SR M as H S ∧ DVRs M as H vs ds ∧ o ds S = some ps ∧ ∀ p ws, ws.length ≤ sizeLine → PRs M as H ws ps → H p = none → Q (.ref p) (upd H p (.lst ws))
def dAppF (o : OpF) (fa : Sig → AH → Res (List DV)) : Sig → AH → Res (List PV) := fun δ S => (fa δ S).bind fun ds S => match o ds S with
  | some ps => .ok ps S
  | none => .bad
section
variable {X : Cx} {E : L2.St → XK} {a b c : Expr} {es : List Expr} {p pos : Pos} {x : Str} {T id : String} {fa fb fc : Sig → AH → Res DV} {fs : Sig → AH → Res (List DV)} {o : OpF}
theorem tAppF {σ : L2.St} {H : Hp} {Q : VK} {as : As} {δ : Sig} {S : AH} (sr : SR (wd X) as H S) (er : ER (wd X) as H σ δ) (w : WF (wd X) (E σ) as H (dAppF o fs δ S) Q) : tCB (rFN (wd X) o) (tDA (wd X) E fs) σ H Q :=
  ⟨as, δ, S, sr, er, (WF.bind w).mono fun _ _ _ _ _ _ _ _ _ ⟨as1, S1, d1, _, x1, s1, r1, w1⟩ => by
    split at w1
    · rename_i ps e
      exact ⟨as1, S1, d1, ps, s1, r1, e, fun p ws z t n => w1.here s1 z t n⟩
    · exact w1.elim⟩
theorem fe_callB (hc : CallR X (.builtin id) (rFN (wd X) o)) (hg : Gl X x) (hm : X.mg x = none) (hv : bootBuiltins x = some (.builtin id)) (ha : DA X E (a :: es) fs) (hn : x ≠ "__name__" := by decide) (hdb : (x == ("__debug__" : Str)) = false := by decide)
    (he : starEach (a :: es) X.env = (false, eval a X.env) :: starEach es X.env := by rfl) (hpl : (backTo pos (starEach es X.env)).any (·.1) = false := by rfl) : FE X E (.Call (.Name x p) (a :: es) [] pos) (dAppF o fs) := (pe_callB hc hg hm hv ha hn hdb he hpl).imp fun σ H Q ⟨as, δ, S, sr, er, w⟩ => tAppF sr er w
theorem fe_callTy (hc : CallR X (.type T) (rFN (wd X) o)) (hg : Gl X x) (hm : X.mg x = none) (hv : bootBuiltins x = some (.type T)) (ha : DA X E (a :: es) fs) (hn : x ≠ "__name__" := by decide) (hdb : (x == ("__debug__" : Str)) = false := by decide)
    (he : starEach (a :: es) X.env = (false, eval a X.env) :: starEach es X.env := by rfl) (hpl : (backTo pos (starEach es X.env)).any (·.1) = false := by rfl) : FE X E (.Call (.Name x p) (a :: es) [] pos) (dAppF o fs) := (pe_callTy hc hg hm hv ha hn hdb he hpl).imp fun σ H Q ⟨as, δ, S, sr, er, w⟩ => tAppF sr er w
end
def listF : OpF := fun ds S => match ds with
  | [d] => items d S
  | _ => none
/-- sorted numbers -/
def insI (a : Int) : List Int → List Int
  | [] => [a]
  | b :: r => if a ≤ b then a :: b :: r else b :: insI a r
def sortI : List Int → List Int
  | [] => []
  | a :: r => insI a (sortI r)
theorem insI_perm (a : Int) : ∀ l, (insI a l).Perm (a :: l)
  | [] => .refl _
  | b :: r => by
    unfold insI
    split
    · exact .refl _
    · exact (List.Perm.cons b (insI_perm a r)).trans (List.Perm.swap a b r)
theorem sortI_perm : ∀ l, (sortI l).Perm l
  | [] => .refl _
  | a :: r => (insI_perm a (sortI r)).trans (List.Perm.cons a (sortI_perm r))
theorem insI_sorted (a : Int) : ∀ {l : List Int}, l.Pairwise (· ≤ ·) → (insI a l).Pairwise (· ≤ ·)
  | [], _ => by simp [insI]
  | b :: r, h => by
    have h' := List.pairwise_cons.mp h
    unfold insI
    split
    · rename_i z
      refine List.pairwise_cons.mpr ⟨fun y hy => ?_, h⟩
      rcases List.mem_cons.mp hy with rfl | hy
      · exact z
      · have := h'.1 y hy; omega
    · rename_i z
      refine List.pairwise_cons.mpr ⟨fun y hy => ?_, insI_sorted a h'.2⟩
      rcases List.mem_cons.mp ((insI_perm a r).mem_iff.mp hy) with rfl | hy
      · omega
      · exact h'.1 y hy
theorem sortI_sorted : ∀ l, (sortI l).Pairwise (· ≤ ·)
  | [] => .nil
  | a :: r => insI_sorted a (sortI_sorted r)
theorem sortI_only {l m : List Int} (h : m.Perm l) (s : m.Pairwise (· ≤ ·)) : m = sortI l := PySem.W.ksm_same (h.trans (sortI_perm l).symm) s (sortI_sorted l)
def sortedF : OpF := fun ds S => match ds with
  | [.p (.tup xs)] => match intsOf xs with
    | some ns => some ((sortI ns).map PV.int)
    | none => none
  | [d] => match litems d S with
    | some xs => match intsOf xs with
      | some ns => some ((sortI ns).map PV.int)
      | none => none
    | none => none
  | _ => none
section
variable {X : Cx}
theorem ow_list : CallR X (.type "list") (rFN (wd X) listF) := by
  intro pins s σ H vs us Q I rv h
  obtain ⟨as, S, ds, ps, sr, r, e, q⟩ := h
  unfold listF at e
  split at e
  · obtain ⟨v, rfl, r1⟩ := DVRs.one r
    obtain ⟨a, vs, rfl, z, q2, t⟩ := items_sq sr r1 e
    exact call_list_of pins s σ H _ us Q I rv ⟨a, vs, rfl, q2, fun p n => q p vs z t n⟩
  · cases e
theorem ow_sorted : CallR X (.builtin "sorted") (rFN (wd X) sortedF) := by
  intro pins s σ H vs us Q I rv h
  obtain ⟨as, S, ds, ps, sr, r, e, q⟩ := h
  unfold sortedF at e
  split at e
  · obtain ⟨v, rfl, r1⟩ := DVRs.one r
    cases r1 with
    | tup h t =>
      split at e
      · rename_i ns e2
        cases e
        rw [intsOf_ok e2] at t
        have hz := h.1
        have q2 := h.sq
        rw [t.ints] at q2 hz
        refine cr_sortedTI pins s σ H _ us Q I rv ⟨_, ns, rfl, q2, fun ns' p h1 h2 n => ?_⟩
        rw [sortI_only h1 h2]
        refine q p _ ?_ (PRs.of_ints _) n
        rw [List.length_map, (sortI_perm ns).length_eq, ← List.length_map (f := V.int)]
        exact hz
      · cases e
  · obtain ⟨v, rfl, r1⟩ := DVRs.one r
    split at e
    · rename_i xs e1
      obtain ⟨a, vs, rfl, z, q2, t⟩ := litems_sq sr r1 e1
      split at e
      · rename_i ns e2
        cases e
        rw [intsOf_ok e2] at t
        have hl : vs.length = ns.length := by rw [t.length, List.length_map]
        rw [t.ints] at q2
        refine cr_sortedI pins s σ H _ us Q I rv ⟨a, ns, rfl, q2, fun ns' p h1 h2 n => ?_⟩
        rw [sortI_only h1 h2]
        refine q p _ ?_ (PRs.of_ints _) n
        rw [List.length_map, (sortI_perm ns).length_eq, ← hl]
        exact z
      · cases e
    · cases e
  · cases e
end

/-! ### isinstance -/
def tyName : DV → AH → Option String
  | .p .non, _ => some "NoneType"
  | .p (.bl _), _ => some "bool"
  | .p (.int _), _ => some "int"
  | .p (.str _), _ => some "str"
  | .p (.tup _), _ => some "tuple"
  | .p (.lst _), _ => some "list"
  | .p (.fro _), _ => some "list"
  | .p (.glob _), _ => none
  | .c n, S => match S[n]? with
    | some (.lst _) => some "list"
    | _ => none
/-- is a value of the type a one of the type b -/
def isTy (a b : String) : Bool := a == b || (a == "bool" && b == "int")
def tyNames : List String := ["NoneType", "bool", "int", "str", "tuple", "list"]
def tyOk (b : String) : Bool := tyNames.all fun a => decide (kitB a b = some (isTy a b))
theorem tyName_in {d : DV} {S : AH} {a : String} (h : tyName d S = some a) : a ∈ tyNames := by
  unfold tyName at h
  split at h <;> first | (cases h; decide) | (cases h) | skip
  split at h
  · cases h; decide
  · cases h
theorem tyName_ty {M : Wd} {as : As} {H : Hp} {S : AH} {d : DV} {v : V} {a : String} (sr : SR M as H S) (r : DVR M as H v d) (h : tyName d S = some a) : TyX M.K H v (.type a) := by
  cases d with
  | p x =>
    cases x with
    | non => cases h; cases r; exact .base .non
    | bl b => cases h; cases r; exact .base (.bl _)
    | int i => cases h; cases r; exact .base (.int _)
    | str x => cases h; cases r; exact .base (.str _)
    | tup xs =>
      cases h
      cases r with
      | tup h1 t1 =>
        rcases h1.2 with ⟨⟨o, _, e⟩, _⟩ | ⟨o, its, n, hk, hc, _⟩
        · exact .fTuple e
        · exact .kTuple hk hc
    | lst xs => cases h; cases r with | lst h1 t1 => exact .base (.lst h1.2.1)
    | fro xs =>
      cases h
      cases r with
      | fro h1 t1 =>
        rcases h1.2 with ⟨⟨o, e⟩, _⟩ | ⟨o, its, n, hk, hc, _⟩
        · exact .base (.frz e)
        · exact .kList hk hc
    | glob n => cases h
  | c n =>
    obtain ⟨b, eb, rfl⟩ := r
    simp only [tyName] at h
    split at h
    · rename_i xs q
      cases h
      obtain ⟨b2, vs, eb2, z, hb, t⟩ := sr.at q
      rw [eb] at eb2; cases eb2
      exact .base (.lst hb)
    · cases h
def dIsi (T : String) (fa : Sig → AH → Res DV) : Sig → AH → Res DV := fun δ S => (fa δ S).bind fun a S => match tyName a S with
  | some t => .ok (.p (.bl (isTy t T))) S
  | none => .bad
theorem kit_any {K : PySem.W.Frag} {a : String} (ha : a ∈ tyNames) : ∀ {Ts : List String}, (∀ T ∈ Ts, tyOk T = true) → PySem.W.kitAny K (.type a) (Ts.map Value.type) = some (Ts.any fun T => isTy a T)
  | [], _ => rfl
  | T :: r, h => by
    have h1 : kitB a T = some (isTy a T) := of_decide_eq_true (List.all_eq_true.mp (h T List.mem_cons_self) a ha)
    have h2 := kit_any (K := K) ha (Ts := r) fun U hU => h U (List.mem_cons_of_mem _ hU)
    show PySem.W.kitAny K (.type a) (.type T :: r.map Value.type) = some (isTy a T || r.any fun T => isTy a T)
    cases e : isTy a T with
    | true =>
      rw [e] at h1
      exact kitAny_cons (b := true) (r := true) (kit_ty h1) (fun z => nomatch z) fun _ => rfl
    | false =>
      rw [e] at h1
      rw [Bool.false_or]
      exact kitAny_cons (b := false) (kit_ty h1) (fun _ => h2) fun z => nomatch z
def dIsiT (Ts : List String) (fa : Sig → AH → Res DV) : Sig → AH → Res DV := fun δ S => (fa δ S).bind fun a S => match tyName a S with
  | some t => .ok (.p (.bl (Ts.any fun T => isTy t T))) S
  | none => .bad
section
variable {X : Cx} {E : L2.St → XK} {a : Expr} {p q q1 q2 pos tpos : Pos} {T T2 : String} {x y : Str} {k : Nat} {fa : Sig → AH → Res DV}
theorem de_isi (hT : tyOk T = true) (hg : Gl X "isinstance") (hm : X.mg "isinstance" = none) (gx : Gl X x) (mx : X.mg x = none) (bx : bootBuiltins x = some (.type T)) (ha : DE X E a fa) (nx : x ≠ "__name__" := by decide) (dx : (x == ("__debug__" : Str)) = false := by decide)
    (he : starEach [a, .Name x q] X.env = (false, eval a X.env) :: starEach [.Name x q] X.env := by rfl) :
    DE X E (.Call (.Name "isinstance" p) [a, .Name x q] [] pos) (dIsi T fa) :=
  (pe_callB call_isi hg hm (show bootBuiltins "isinstance" = some (.builtin "isinstance") by decide +kernel) (pa_cons ha (pa_cons (pe_bltn (v := .ty T) gx mx bx rfl nx dx) pa_nil) he) (by decide) (by decide) he).imp fun σ H Q ⟨as, δ, S, sr, er, w⟩ =>
    ⟨as, δ, S, sr, er, w.bind.mono fun _ _ _ _ v _ _ _ _ ⟨as1, S1, d1, _, x1, s1, r1, w1⟩ => by
      split at w1
      · rename_i t e
        have h1 : kitB t T = some (isTy t T) := of_decide_eq_true (List.all_eq_true.mp hT t (tyName_in e))
        exact ⟨v, .ty T, _, _, _, rfl, .ty T, tyName_ty s1 r1 e, kit_ty h1, WR.pure w1 s1 (.bl _)⟩
      · exact w1.elim⟩
theorem de_isi2 (hT : tyOk T = true) (hT2 : tyOk T2 = true) (hg : Gl X "isinstance") (hm : X.mg "isinstance" = none) (gx : Gl X x) (mx : X.mg x = none) (bx : bootBuiltins x = some (.type T)) (gy : Gl X y) (my : X.mg y = none) (yx : bootBuiltins y = some (.type T2)) (ha : DE X E a fa)
    (nx : x ≠ "__name__" := by decide) (dx : (x == ("__debug__" : Str)) = false := by decide) (ny : y ≠ "__name__" := by decide) (dy : (y == ("__debug__" : Str)) = false := by decide)
    (he : starEach [a, .Tuple [.Name x q1, .Name y q2] k tpos] X.env = (false, eval a X.env) :: starEach [.Tuple [.Name x q1, .Name y q2] k tpos] X.env := by rfl) :
    DE X E (.Call (.Name "isinstance" p) [a, .Tuple [.Name x q1, .Name y q2] k tpos] [] pos) (dIsiT [T, T2] fa) :=
  (pe_callB call_isiT hg hm (show bootBuiltins "isinstance" = some (.builtin "isinstance") by decide +kernel) (pa_cons ha (pa_cons (pe_tup (pa_cons (pe_bltn (v := .ty T) gx mx bx rfl nx dx) (pa_cons (pe_bltn (v := .ty T2) gy my yx rfl ny dy) pa_nil))) pa_nil) he) (by decide) (by decide) he).imp fun σ H Q ⟨as, δ, S, sr, er, w⟩ =>
    ⟨as, δ, S, sr, er, w.bind.mono fun _ _ _ H1 v _ _ _ _ ⟨as1, S1, d1, _, x1, s1, r1, w1⟩ => by
      split at w1
      · rename_i t e
        refine ⟨by show 2 ≤ sizeLine; decide, fun tp n => ⟨v, tp, [.ty T, .ty T2], _, [.type T, .type T2], _, rfl, upd_same, .cons (.ty T) (.cons (.ty T2) .nil), tyName_ty (s1.new n) (r1.mono (ext_new s1 n).w) e, kit_any (tyName_in e) (Ts := [T, T2]) ?_, ?_⟩⟩
        · intro U hU
          rcases List.mem_cons.mp hU with rfl | hU
          · exact hT
          · rw [List.mem_singleton.mp hU]; exact hT2
        · exact w1 _ _ _ (ext_new s1 n) (s1.new n) (.bl _)
      · exact w1.elim⟩
end
end
end DL
namespace DL
noncomputable section
open PySem PySem.Spec PyProof.Rows L2

/-! ### targets: names and tuples of them -/
inductive Pat where
  | nm (i : Nat) | tp (ps : List Pat)
mutual
def Pat.set : Pat → DV → Sig → Option Sig
  | .nm i, d, δ => some (δ.set i (some d))
  | .tp ps, d, δ => match d with
    | .p (.tup xs) => Pat.sets ps (xs.map DV.p) δ
    | .p (.lst xs) => Pat.sets ps (xs.map DV.p) δ
    | _ => none
def Pat.sets : List Pat → List DV → Sig → Option Sig
  | [], [], δ => some δ
  | q :: qs, x :: xs, δ => (Pat.set q x δ).bind fun δ' => Pat.sets qs xs δ'
  | _, _, _ => none
end
mutual
def Pat.slots : Pat → List Nat
  | .nm i => [i]
  | .tp ps => Pat.slotss ps
def Pat.slotss : List Pat → List Nat
  | [] => []
  | q :: qs => Pat.slots q ++ Pat.slotss qs
end
def gOr (t u : TG) : TG := fun v σ H Q => t v σ H Q ∨ u v σ H Q
mutual
def tPat (K : PySem.W.Frag) : Pat → TG
  | .nm i => gName i
  | .tp ps => gOr (gTup K ps.length (tPats K ps)) (gLst K ps.length (tPats K ps))
def tPats (K : PySem.W.Frag) : List Pat → TGs
  | [] => gNil
  | q :: qs => gCons (tPat K q) (tPats K qs)
end
theorem PG.or {X : Cx} {e : Expr} {t u : TG} (h : PG X e t) (h' : PG X e u) : PG X e (gOr t u) := ⟨fun pins s σ H v w Q I r q => by
  rcases q with q | q
  · exact h.run pins s σ H v w Q I r q
  · exact h'.run pins s σ H v w Q I r q⟩
theorem wipe_set (i : Nat) (v : Option V) : ∀ (vs : List Nat) (σ : L2.St), i ∈ vs → L2.wipe (σ.set i v) vs = L2.wipe σ vs
  | [], _, h => nomatch h
  | j :: vs, σ, h => by
    show (L2.wipe (σ.set i v) vs).set j none = (L2.wipe σ vs).set j none
    by_cases e : i = j
    · subst e
      have go : ∀ (vs : List Nat) (σ : L2.St), (L2.wipe (σ.set i v) vs).set i none = (L2.wipe σ vs).set i none := by
        intro vs
        induction vs with
        | nil => intro σ; show (σ.set i v).set i none = σ.set i none; rw [List.set_set]
        | cons k vs ih =>
          intro σ
          show ((L2.wipe (σ.set i v) vs).set k none).set i none = ((L2.wipe σ vs).set k none).set i none
          by_cases e : k = i
          · subst e; rw [List.set_set, List.set_set]; exact ih σ
          · rw [List.set_comm _ _ e, ih σ, List.set_comm _ _ (Ne.symm e)]
      exact go vs σ
    · rw [wipe_set i v vs σ ((List.mem_cons.mp h).resolve_left e)]
theorem sets_len : ∀ (qs : List Pat) {ps : List DV} {δ δ' : Sig}, Pat.sets qs ps δ = some δ' → ps.length = qs.length
  | [], [], _, _, _ => rfl
  | [], _ :: _, _, _, e => by simp [Pat.sets] at e
  | _ :: _, [], _, _, e => by simp [Pat.sets] at e
  | q :: qs, x :: xs, _, _, e => by
    simp only [Pat.sets, Option.bind_eq_some_iff] at e
    obtain ⟨δ1, e1, e2⟩ := e
    exact congrArg (· + 1) (sets_len qs e2)
section
variable {M : Wd} {as : As} {H : Hp}
theorem PRs.dvrs : ∀ {vs : List V} {ps : List PV}, PRs M as H vs ps → DVRs M as H vs (ps.map DV.p)
  | _, _, .nil => .nil
  | _, _, .cons r t => .cons r (PRs.dvrs t)
theorem KRs.dvrs : ∀ {vs : List V} {ks : List Nat}, KRs as vs ks → DVRs M as H vs (ks.map DV.c)
  | _, _, .nil => .nil
  | _, _, .cons r t => .cons r (KRs.dvrs t)
theorem DVRs.get : ∀ {vs : List V} {ds : List DV} {i : Nat} {d : DV}, DVRs M as H vs ds → ds[i]? = some d → ∃ v, vs[i]? = some v ∧ DVR M as H v d
  | _, _, i, d, .nil, e => by simp at e
  | _, _, 0, d, .cons r _, e => by simp at e; subst e; exact ⟨_, rfl, r⟩
  | _, _, i + 1, d, .cons _ t, e => by
    obtain ⟨u, h1, h2⟩ := DVRs.get (i := i) (d := d) t (by simpa using e)
    exact ⟨u, by simpa using h1, h2⟩
mutual
theorem tPat_ok : ∀ (q : Pat) {v : V} {p : DV} {σ : L2.St} {δ δ' : Sig} {Q : L2.St → Hp → Prop}, ER M as H σ δ → DVR M as H v p → q.set p δ = some δ' →
    (∀ σ', ER M as H σ' δ' → (∀ vs, (∀ i ∈ q.slots, i ∈ vs) → L2.wipe σ' vs = L2.wipe σ vs) → Q σ' H) → tPat M.K q v σ H Q
  | .nm i, v, p, σ, δ, δ', Q, er, r, e, k => by
    simp only [Pat.set, Option.some.injEq] at e
    subst e
    exact k _ (er.set (d := p) r i) fun vs h => wipe_set i _ vs σ (h i (by simp [Pat.slots]))
  | .tp ps, v, p, σ, δ, δ', Q, er, r, e, k => by
    simp only [Pat.set] at e
    split at e
    · rename_i xs
      cases r with
      | tup h t =>
        exact .inl ⟨_, _, rfl, h.sq, t.length.trans ((List.length_map DV.p).symm.trans (sets_len ps e)), tPats_ok ps er t.dvrs e k⟩
    · rename_i xs
      cases r with
      | lst h t =>
        exact .inr ⟨_, _, rfl, h.sq, t.length.trans ((List.length_map DV.p).symm.trans (sets_len ps e)), tPats_ok ps er t.dvrs e k⟩
    · cases e
theorem tPats_ok : ∀ (qs : List Pat) {vs : List V} {ps : List DV} {σ : L2.St} {δ δ' : Sig} {Q : L2.St → Hp → Prop}, ER M as H σ δ → DVRs M as H vs ps → Pat.sets qs ps δ = some δ' →
    (∀ σ', ER M as H σ' δ' → (∀ ws, (∀ i ∈ Pat.slotss qs, i ∈ ws) → L2.wipe σ' ws = L2.wipe σ ws) → Q σ' H) → tPats M.K qs vs σ H Q
  | [], _, [], σ, δ, δ', Q, er, .nil, e, k => by
    simp only [Pat.sets, Option.some.injEq] at e
    subst e
    exact ⟨rfl, k σ er fun _ _ => rfl⟩
  | [], _, _ :: _, σ, δ, δ', Q, er, _, e, k => by simp [Pat.sets] at e
  | q :: qs, _, [], σ, δ, δ', Q, er, _, e, k => by simp [Pat.sets] at e
  | q :: qs, _, x :: xs, σ, δ, δ', Q, er, .cons r t, e, k => by
    simp only [Pat.sets, Option.bind_eq_some_iff] at e
    obtain ⟨δ1, e1, e2⟩ := e
    refine ⟨_, _, rfl, ?_⟩
    exact tPat_ok q er r e1 fun σ1 er1 w1 => tPats_ok qs er1 t e2 fun σ2 er2 w2 => k σ2 er2 fun ws hw => by
      rw [w2 ws fun i hi => hw i (by simp [Pat.slotss, hi]), w1 ws fun i hi => hw i (by simp [Pat.slotss, hi])]
end
end
abbrev DG (X : Cx) (tg : Expr) (q : Pat) : Prop := PG X tg (tPat X.K q)
abbrev DGs (X : Cx) (tgs : List Expr) (qs : List Pat) : Prop := PGs X tgs (tPats X.K qs)
section
variable {X : Cx} {e : Expr} {es : List Expr} {q : Pat} {qs : List Pat} {pos : Pos}
theorem dg_nm {i : Nat} {x : Str} (hN : X.N.Nodup) (hi : X.N[i]? = some x) (hx : Loc X.env.scope x) (hf : X.fn x = true ∨ X.env.scope.names.lookup x = some .local := by first | exact .inl rfl | exact .inr rfl | assumption) : DG X (.Name x pos) (.nm i) := pg_name hN hi hx hf
theorem dgs_nil : DGs X [] [] := pgs_nil
theorem dgs_cons (h : DG X e q) (t : DGs X es qs) (hs : (assignEach (e :: es) X.env).map (·.2) = assign e X.env :: (assignEach es X.env).map (·.2) := by rfl) : DGs X (e :: es) (q :: qs) := pgs_cons h t hs
theorem dg_tp {k : Nat} (hc : X.calm = true) (h : DGs X es qs) (hn : (assignEach es X.env).length = qs.length := by rfl) (hst : (assignEach es X.env).findIdx? (·.1) = none := by rfl) : DG X (.Tuple es k pos) (.tp qs) :=
  PG.or (pg_tup hc h hn hst) (pg_lst hc h hn hst)
end

/-! ### what is walked -/
structure Yields (M : Wd) (J : It) (xs : List DV) (ck : AH → Prop) (as0 : As) (H0 : Hp) : Prop where
  stop : ∀ as H S, Exw as0 H0 as H → SR M as H S → ck S → J.stop xs.length H
  go : ∀ as H S, Exw as0 H0 as H → SR M as H S → ck S → ∀ i, i < xs.length → J.go i H
  yld : ∀ as H S, Exw as0 H0 as H → SR M as H S → ck S → ∀ (i : Nat) (p : DV) (v : V) (H' : Hp), xs[i]? = some p → J.yld i H v H' → Ext as H as H' ∧ SR M as H' S ∧ DVR M as H' v p
abbrev Its' := List DV × (AH → Prop)
def tI (M : Wd) (E : L2.St → XK) (f : Sig → AH → Res Its') : TI := fun σ H R => ∃ as δ S, SR M as H S ∧ ER M as H σ δ ∧ WR M (E σ) (fun as H J (x : Its') => Yields M J x.1 x.2 as H) as H (f δ S) R
abbrev DI (X : Cx) (E : L2.St → XK) (tg e : Expr) (f : Sig → AH → Res Its') : Prop := PI X tg e (tI (wd X) E f)
theorem PI.imp {X : Cx} {tg e : Expr} {t t' : TI} (h : PI X tg e t) (i : ∀ σ H Q, t' σ H Q → t σ H Q) : PI X tg e t' := ⟨fun pins s σ H Q I q => h.run pins s σ H Q I (i σ H Q q)⟩
def iSeq (K : PySem.W.Frag) (tl : TE) : TI := fun σ H R => tl σ H fun x H1 => (∃ a, x = .ref a ∧ (∃ xs, SqL K H1 a xs) ∧ R (Itl K a) H1) ∨ (∃ a, x = .ref a ∧ (∃ xs, SqT K H1 a xs) ∧ R (Itt K a) H1) ∨ (∃ z, x = .str z ∧ R (Its z) H1)
theorem pi_seq {X : Cx} {tg l : Expr} {tl : TE} (hl : PE X l tl) : PI X tg l (iSeq X.K tl) := by
  refine ⟨fun pins s σ H R I h => ?_⟩
  refine thn (hl.run pins s σ H _ I h) fun v s1 ⟨x, H1, I1, r1, q1⟩ => ?_
  rcases q1 with ⟨a, e, ⟨xs, hq⟩, q⟩ | ⟨a, e, ⟨xs, hq⟩, q⟩ | ⟨z, e, q⟩
  · subst e
    cases r1
    obtain ⟨its, rv, p, hz⟩ := I1.list hq
    refine wpAny_pyIter_list p.isList ?_
    refine ⟨s1.heap.objs.size, [s1.heap.objs.size], _, _, H1, rfl, I1.kept (t' := s1.toks) fun b o e => Heap.get?_push_of_some _ e, turn_list a _, ⟨_, Heap.get?_push_size _ rfl, rfl, rfl⟩, fun b hb => ?_, q⟩
    have e : b = s1.heap.objs.size := by simpa using hb
    subst e
    exact I1.fpOk (Nat.le_refl _) (I1.hok.fresh (Nat.le_refl _))
  · subst e
    cases r1
    obtain ⟨its, rv, p, hz⟩ := I1.tuple hq
    refine wpAny_pyIter_tuple (show s1.heap.IsTuple a its.toArray from p) ?_
    refine ⟨s1.heap.objs.size, [s1.heap.objs.size], _, _, H1, rfl, I1.kept (t' := s1.toks) fun b o e => Heap.get?_push_of_some _ e, turn_tuple a _, ⟨_, Heap.get?_push_size _ rfl, rfl, rfl⟩, fun b hb => ?_, q⟩
    have e : b = s1.heap.objs.size := by simpa using hb
    subst e
    exact I1.fpOk (Nat.le_refl _) (I1.hok.fresh (Nat.le_refl _))
  · subst e
    obtain ⟨t, rfl⟩ := r1
    cases ha : z.cps.all (· < 128)
    · exact wpAny_pyIter_wide ha (pi_one (tk := s1.toks) I1 _ (turn_str _ z t "str_iterator" (.inr rfl)) ⟨_, Heap.get?_push_size _ rfl, rfl, rfl⟩ q)
    · exact wpAny_pyIter_ascii ha (pi_one (tk := s1.toks) I1 _ (turn_str _ z t "str_ascii_iterator" (.inl rfl)) ⟨_, Heap.get?_push_size _ rfl, rfl, rfl⟩ q)
/-- the signs of a text -/
def signs (z : Str) : List DV := z.cps.toList.map fun c => .p (.str ⟨#[c]⟩)
def dit (xs : List PV) : List DV := xs.map DV.p
def dic (ks : List Nat) : List DV := ks.map DV.c
@[simp] theorem dit_nil : dit [] = [] := (rfl)
@[simp] theorem dit_cons {x : PV} {xs : List PV} : dit (x :: xs) = .p x :: dit xs := (rfl)
@[simp] theorem dit_len {xs : List PV} : (dit xs).length = xs.length := List.length_map _
@[simp] theorem dic_nil : dic [] = [] := (rfl)
@[simp] theorem dic_cons {k : Nat} {ks : List Nat} : dic (k :: ks) = .c k :: dic ks := (rfl)
@[simp] theorem dic_len {ks : List Nat} : (dic ks).length = ks.length := List.length_map _
def dSeqI (fa : Sig → AH → Res DV) : Sig → AH → Res Its' := fun δ S => (fa δ S).bind fun d S => match d with
  | .p (.tup xs) => .ok (dit xs, fun _ => True) S
  | .p (.lst xs) => .ok (dit xs, fun _ => True) S
  | .p (.fro xs) => .ok (dit xs, fun _ => True) S
  | .p (.str z) => .ok (signs z, fun _ => True) S
  | .c n => match S[n]? with
    | some (.lst xs) => .ok (dit xs, fun S' => S'[n]? = some (.lst xs)) S
    | some (.nst ks) => .ok (dic ks, fun S' => S'[n]? = some (.nst ks)) S
    | _ => .bad
  | _ => .bad
theorem yields_lst {M : Wd} {as0 : As} {H0 : Hp} {a : Addr} {xs : List DV} {ck : AH → Prop} (h : ∀ as H S, Exw as0 H0 as H → SR M as H S → ck S → ∃ vs, SqL M.K H a vs ∧ DVRs M as H vs xs) : Yields M (Itl M.K a) xs ck as0 H0 where
  stop as H S x s c := by
    obtain ⟨vs, q, t⟩ := h as H S x s c
    exact ⟨vs, q, by rw [Paired.length t]; exact Nat.le_refl _⟩
  go as H S x s c i hi := by
    obtain ⟨vs, q, t⟩ := h as H S x s c
    have hi' : i < vs.length := by rw [Paired.length t]; exact hi
    exact ⟨vs, vs[i], q, List.getElem?_eq_getElem hi'⟩
  yld as H S x s c i p v H' hp y := by
    obtain ⟨vs, q, t⟩ := h as H S x s c
    obtain ⟨e, y⟩ := y
    subst e
    obtain ⟨w, e1, r⟩ := DVRs.get t hp
    rw [y vs q] at e1; cases e1
    exact ⟨Ext.refl _ _, s, r⟩
theorem yields_tup {M : Wd} {as0 : As} {H0 : Hp} {a : Addr} {xs : List DV} {ck : AH → Prop} (h : ∀ as H S, Exw as0 H0 as H → SR M as H S → ck S → ∃ vs, SqT M.K H a vs ∧ DVRs M as H vs xs) : Yields M (Itt M.K a) xs ck as0 H0 where
  stop as H S x s c := by
    obtain ⟨vs, q, t⟩ := h as H S x s c
    exact ⟨vs, q, by rw [Paired.length t]; exact Nat.le_refl _⟩
  go as H S x s c i hi := by
    obtain ⟨vs, q, t⟩ := h as H S x s c
    have hi' : i < vs.length := by rw [Paired.length t]; exact hi
    exact ⟨vs, vs[i], q, List.getElem?_eq_getElem hi'⟩
  yld as H S x s c i p v H' hp y := by
    obtain ⟨vs, q, t⟩ := h as H S x s c
    obtain ⟨e, y⟩ := y
    subst e
    obtain ⟨w, e1, r⟩ := DVRs.get t hp
    rw [y vs q] at e1; cases e1
    exact ⟨Ext.refl _ _, s, r⟩
theorem yields_str {M : Wd} {as0 : As} {H0 : Hp} {z : Str} {ck : AH → Prop} : Yields M (Its z) (signs z) ck as0 H0 where
  stop as H S x s c := by
    show z.cps.size ≤ (signs z).length
    unfold signs
    simp
  go as H S x s c i hi := by
    show i < z.cps.size
    unfold signs at hi
    simpa using hi
  yld as H S x s c i p v H' hp y := by
    obtain ⟨e, cc, e1, e2⟩ := y
    subst e e2
    unfold signs at hp
    rw [List.getElem?_map, Array.getElem?_toList, e1] at hp
    cases hp
    exact ⟨Ext.refl _ _, s, PR.str _⟩
/-- lo, lo + 1, .. -/
def rangeI (lo : Int) (n : Nat) : List DV := (List.range n).map fun (i : Nat) => DV.p (.int (lo + (i : Int)))
def rangeC (lo c : Int) (n : Nat) : List DV := (List.range n).map fun (i : Nat) => DV.p (.int (lo + (i : Int) * c))
theorem yields_rng {M : Wd} {as0 : As} {H0 : Hp} {lo : Int} {n : Nat} {ck : AH → Prop} : Yields M (Itr lo n) (rangeI lo n) ck as0 H0 where
  stop as H S x s c := by
    show n ≤ (rangeI lo n).length
    unfold rangeI
    simp
  go as H S x s c i hi := by
    show i < n
    unfold rangeI at hi
    simpa using hi
  yld as H S x s c i p v H' hp y := by
    obtain ⟨e, e2⟩ := y
    subst e e2
    unfold rangeI at hp
    have hi : i < n := by
      have := (List.getElem?_eq_some_iff.mp hp).1
      simpa using this
    rw [List.getElem?_map, List.getElem?_range hi] at hp
    cases hp
    exact ⟨Ext.refl _ _, s, PR.int _⟩
theorem yields_rngC {M : Wd} {as0 : As} {H0 : Hp} {lo cc : Int} {n : Nat} {ck : AH → Prop} : Yields M (Itc lo cc n) (rangeC lo cc n) ck as0 H0 where
  stop as H S x s c := by
    show n ≤ (rangeC lo cc n).length
    unfold rangeC
    simp
  go as H S x s c i hi := by
    show i < n
    unfold rangeC at hi
    simpa using hi
  yld as H S x s c i p v H' hp y := by
    obtain ⟨e, e2⟩ := y
    subst e e2
    unfold rangeC at hp
    have hi : i < n := by
      have := (List.getElem?_eq_some_iff.mp hp).1
      simpa using this
    rw [List.getElem?_map, List.getElem?_range hi] at hp
    cases hp
    exact ⟨Ext.refl _ _, s, PR.int _⟩
def small62 (i : Int) : Prop := -(2 ^ 62) ≤ i ∧ i < 2 ^ 62
noncomputable instance (i : Int) : Decidable (small62 i) := Classical.propDecidable _
def dRng1 (fs : Sig → AH → Res (List DV)) : Sig → AH → Res Its' := fun δ S => (fs δ S).bind fun ds S => match ds with
  | [.p (.int j)] => if small62 j then .ok (rangeI 0 j.toNat, fun _ => True) S else .bad
  | _ => .bad
def dRng2 (fs : Sig → AH → Res (List DV)) : Sig → AH → Res Its' := fun δ S => (fs δ S).bind fun ds S => match ds with
  | [.p (.int i), .p (.int j)] => if small62 i ∧ small62 j then .ok (rangeI i (j - i).toNat, fun _ => True) S else .bad
  | _ => .bad
/-- downwards by ones -/
def dRng3 (fs : Sig → AH → Res (List DV)) : Sig → AH → Res Its' := fun δ S => (fs δ S).bind fun ds S => match ds with
  | [.p (.int i), .p (.int j), .p (.int c)] => if c = -1 ∧ small62 i ∧ small62 j then .ok (rangeC i (-1) (i - j).toNat, fun _ => True) S else .bad
  | _ => .bad
section
variable {X : Cx} {E : L2.St → XK} {tg a b c : Expr} {p pos : Pos} {fa : Sig → AH → Res DV} {fs : Sig → AH → Res (List DV)}
theorem di_seq (ha : DE X E a fa) : DI X E tg a (dSeqI fa) := PI.imp (pi_seq ha) fun σ H R ⟨as, δ, S, sr, er, w⟩ =>
  ⟨as, δ, S, sr, er, w.bind.mono fun _ _ _ H1 v _ _ _ _ ⟨as1, S1, d1, _, x1, s1, r1, w1⟩ => by
    split at w1
    · cases r1 with
      | tup h t => exact .inr (.inl ⟨_, rfl, ⟨_, h.sq⟩, WR.pure w1 s1 (yields_tup fun as H S x s c => ⟨_, (h.mono x).sq, (t.mono x).dvrs⟩)⟩)
    · cases r1 with
      | lst h t => exact .inl ⟨_, rfl, ⟨_, h.sq⟩, WR.pure w1 s1 (yields_lst fun as H S x s c => ⟨_, (h.mono x).sq, (t.mono x).dvrs⟩)⟩
    · cases r1 with
      | fro h t => exact .inl ⟨_, rfl, ⟨_, h.sq⟩, WR.pure w1 s1 (yields_lst fun as H S x s c => ⟨_, (h.mono x).sq, (t.mono x).dvrs⟩)⟩
    · cases r1
      exact .inr (.inr ⟨_, rfl, WR.pure w1 s1 yields_str⟩)
    · obtain ⟨a, ea, rfl⟩ := r1
      split at w1
      · rename_i xs q
        obtain ⟨b, vs, eb, z, hb, t⟩ := s1.at q
        rw [ea] at eb; cases eb
        refine .inl ⟨_, rfl, ⟨_, .of hb⟩, WR.pure w1 s1 (yields_lst fun as H S x s c => ?_)⟩
        obtain ⟨b, vs, eb, z, hb, t⟩ := s.at c
        rw [x.get ea] at eb; cases eb
        exact ⟨_, .of hb, t.dvrs⟩
      · rename_i ks q
        obtain ⟨b, vs, eb, z, hb, t⟩ := s1.atN q
        rw [ea] at eb; cases eb
        refine .inl ⟨_, rfl, ⟨_, .of hb⟩, WR.pure w1 s1 (yields_lst fun as H S x s c => ?_)⟩
        obtain ⟨b, vs, eb, z, hb, t⟩ := s.atN c
        rw [x.get ea] at eb; cases eb
        exact ⟨_, .of hb, KRs.dvrs t⟩
      · exact w1.elim
    · exact w1.elim⟩
theorem di_rng1 (hg : Gl X "range") (hm : X.mg "range" = none) (ha : DA X E [a] fs) (hs : starEach [a] X.env = [(false, eval a X.env)] := by rfl) : DI X E tg (.Call (.Name "range" p) [a] [] pos) (dRng1 fs) := PI.imp (pi_range1 hg hm ha hs) fun σ H R ⟨as, δ, S, sr, er, w⟩ =>
  ⟨as, δ, S, sr, er, w.bind.mono fun _ _ _ H1 v _ _ _ _ ⟨as1, S1, d1, _, x1, s1, r1, w1⟩ => by
    split at w1
    · obtain ⟨v, rfl, r⟩ := DVRs.one r1
      cases r
      split at w1
      · rename_i z
        exact ⟨_, rfl, z.1, z.2, WR.pure w1 s1 yields_rng⟩
      · exact w1.elim
    · exact w1.elim⟩
theorem di_rng2 (hg : Gl X "range") (hm : X.mg "range" = none) (ha : DA X E [a, b] fs) (hs : starEach [a, b] X.env = [(false, eval a X.env), (false, eval b X.env)] := by rfl) (hs2 : starEach [b] X.env = [(false, eval b X.env)] := by rfl) : DI X E tg (.Call (.Name "range" p) [a, b] [] pos) (dRng2 fs) := PI.imp (pi_range2 hg hm ha hs hs2) fun σ H R ⟨as, δ, S, sr, er, w⟩ =>
  ⟨as, δ, S, sr, er, w.bind.mono fun _ _ _ H1 v _ _ _ _ ⟨as1, S1, d1, _, x1, s1, r1, w1⟩ => by
    split at w1
    · obtain ⟨v, v2, rfl, r, r'⟩ := DVRs.two r1
      cases r; cases r'
      split at w1
      · rename_i z
        exact ⟨_, _, rfl, ⟨z.1.1, z.1.2, z.2.1, z.2.2⟩, WR.pure w1 s1 yields_rng⟩
      · exact w1.elim
    · exact w1.elim⟩
theorem DVRs.three {M : Wd} {as : As} {H : Hp} {vs : List V} {d e f : DV} (r : DVRs M as H vs [d, e, f]) : ∃ v w u, vs = [v, w, u] ∧ DVR M as H v d ∧ DVR M as H w e ∧ DVR M as H u f := by
  cases r with
  | cons h t =>
    obtain ⟨w, u, rfl, h2, h3⟩ := DVRs.two t
    exact ⟨_, _, _, rfl, h, h2, h3⟩
theorem di_rng3 (hg : Gl X "range") (hm : X.mg "range" = none) (ha : DA X E [a, b, c] fs) (hs : starEach [a, b, c] X.env = (false, eval a X.env) :: starEach [b, c] X.env := by rfl) (hpl : (backTo pos (starEach [b, c] X.env)).any (·.1) = false := by rfl) : DI X E tg (.Call (.Name "range" p) [a, b, c] [] pos) (dRng3 fs) := PI.imp (pi_range3 hg hm ha hs hpl) fun σ H R ⟨as, δ, S, sr, er, w⟩ =>
  ⟨as, δ, S, sr, er, w.bind.mono fun _ _ _ H1 v _ _ _ _ ⟨as1, S1, d1, _, x1, s1, r1, w1⟩ => by
    split at w1
    · obtain ⟨v, v2, v3, rfl, r, r', r''⟩ := DVRs.three r1
      cases r; cases r'; cases r''
      split at w1
      · rename_i z
        obtain ⟨rfl, z1, z2⟩ := z
        exact ⟨_, _, _, _, rfl, RgC.neg z1.1 z1.2 z2.1 z2.2, WR.pure w1 s1 yields_rngC⟩
      · exact w1.elim
    · exact w1.elim⟩
end
end
end DL
namespace DL
noncomputable section
open PySem PySem.Spec PyProof.Rows L2

/-! ### what a body may let out -/
structure Gd (X : Cx) (E : L2.St → XK) : Prop where
  calm : X.calm = true
  tk : Takes X (fun cls d σ H => E σ cls d H)
  po : PassesOwn (model X.prog X.w) X.A X.env X.xe
theorem Gd.pass {X : Cx} {E : L2.St → XK} (g : Gd X E) (σ : L2.St) : PassesAt (L2.CX X.prog X.w) X σ (E σ) := passAt (W := fun cls d σ H => E σ cls d H) g.tk σ
abbrev EN : L2.St → XK := fun _ _ _ _ => False
theorem Gd.blk {X : Cx} {E : L2.St → XK} (g : Gd X E) (s : Shared) (H : Hp) (scope : Scope) (cenv : Env) (fp : List Addr) : Gd (X.blk s H scope cenv fp) EN := ⟨g.calm, takes0, .never⟩

/-! ### calls of defs -/
def spD (B : Wd) (F : List DV → AH → Res DV) : Sp := fun vs H Q E => ∃ as ds S, SR B as H S ∧ DVRs B as H vs ds ∧ WR B E (DVR B) as H (F ds S) Q
def dCall (F : List DV → AH → Res DV) (fs : Sig → AH → Res (List DV)) : Sig → AH → Res DV := fun δ S => (fs δ S).bind fun ds S => F ds S
section
variable {X : Cx} {E : L2.St → XK} {k : Nat} {f : Addr} {fd : FuncData} {ps : List Str} {F : List DV → AH → Res DV} {x : Str} {p pos : Pos} {a : Expr} {es : List Expr} {fs : Sig → AH → Res (List DV)}
theorem de_call (g : Gd X E) (G : FnOk X.prog X.w X.K X.mg X.base (L2.CX X.prog X.w) k f fd ps (spD ⟨X.K, X.mg⟩ F)) (hr : Room k X.A) (hg : Gl X x) (hm : X.mg x = some (.ref f)) (hk : PySem.W.keepIn X.K (.ref f) = true) (hb : Binds X.K fd ps [])
    (ha : DA X E (a :: es) fs) (hdb : (x == ("__debug__" : Str)) = false := by decide) (he : starEach (a :: es) X.env = (false, eval a X.env) :: starEach es X.env := by rfl) (hpl : (backTo pos (starEach es X.env)).any (·.1) = false := by rfl) :
    DE X E (.Call (.Name x p) (a :: es) [] pos) (dCall F fs) := (pe_callS G hr hg hm hk hb (fun σ => g.pass σ) ha hdb he hpl).imp fun σ H Q ⟨as, δ, S, sr, er, w⟩ =>
  ⟨as, δ, S, sr, er, w.bind.mono fun _ _ _ _ _ _ _ _ _ ⟨as1, S1, ds, _, x1, s1, r1, w1⟩ => ⟨as1, ds, S1, s1, r1, w1⟩⟩
end

/-! ### comprehensions -/
/-- within a comprehension nothing may be raised -/
def _root_.DL.Res.nox {α : Type} : Res α → Res α
  | .exc _ _ _ => .bad
  | r => r
@[simp] theorem nox_ok {α : Type} (a : α) (S : AH) : (Res.ok a S).nox = .ok a S := rfl
@[simp] theorem nox_bad {α : Type} : (Res.bad : Res α).nox = .bad := rfl
@[simp] theorem nox_exc {α : Type} (c : Str) (p : List (Str × PV)) (S : AH) : (Res.exc c p S : Res α).nox = .bad := rfl
open Classical in
/-- a comprehension's turns -/
noncomputable def lcGo (ck : AH → Prop) (q : Pat) (fc : Sig → AH → Res Bool) (fe : Sig → AH → Res DV) (δ : Sig) : List DV → AH → Res (List PV)
  | [], S => if ck S then .ok [] S else .bad
  | x :: xs, S => if ck S then match q.set x δ with
    | none => .bad
    | some δ2 => (fc δ2 S).nox.bind fun b S1 => if b = true then (fe δ2 S1).nox.bind fun d S2 => match d with
        | .p y => (lcGo ck q fc fe δ xs S2).bind fun ys S3 => .ok (y :: ys) S3
        | .c _ => .bad
      else lcGo ck q fc fe δ xs S1
    else .bad
noncomputable def dLc (fi : Sig → AH → Res Its') (q : Pat) (fc : Sig → AH → Res Bool) (fe : Sig → AH → Res DV) (vs : List Nat) : Sig → AH → Res (List PV) := fun δ S => (fi δ S).bind fun x S1 => if x.1.length ≤ 16777216 then lcGo x.2 q fc fe (wipeD δ vs) x.1 S1 else .bad
def dYes : Sig → AH → Res Bool := fun _ S => .ok true S
abbrev DTs (X : Cx) (E : L2.St → XK) (cs : List Expr) (f : Sig → AH → Res Bool) : Prop := PTs X cs (tDT (wd X) E f)
section
variable {X : Cx} {E : L2.St → XK} {c : Expr} {fc : Sig → AH → Res Bool}
theorem dts_nil : DTs X E [] dYes := ⟨fun pins s σ H Q I ⟨as, δ, S, sr, er, w⟩ => pts_nil.run pins s σ H Q I (WR.pure (b := true) w sr rfl)⟩
theorem dts_one (h : DT X E c fc) : DTs X E [c] fc := pts_one h
end
/-- exceptions never come -/
theorem WF.nox {M : Wd} {E0 E1 : XK} {as : As} {H : Hp} {α β : Type} {R : As → Hp → β → α → Prop} {r : Res α} {k : α → AH → Res (List PV)} {Q : VK} {Q' : β → Hp → Prop} (w : WF M E0 as H (r.nox.bind k) Q)
    (h : ∀ a S, r = .ok a S → WF M E0 as H (k a S) Q → ∀ as' H' b, Ext as H as' H' → SR M as' H' S → R as' H' b a → Q' b H') : ∀ {as2 H2}, as2 = as → H2 = H → WR M E1 R as2 H2 r Q' := by
  rintro _ _ rfl rfl
  cases r with
  | ok a S => exact fun as' H' b e s q => h a S rfl w as' H' b e s q
  | exc c p S => exact w.elim
  | bad => exact w.elim
theorem nox_cases {α β : Type} {r : Res α} {k : α → AH → Res β} (P : Res β → Prop) (hb : P .bad → False) (w : P (r.nox.bind k)) : ∃ a S, r = .ok a S ∧ P (k a S) := by
  cases r with
  | ok a S => exact ⟨a, S, rfl, w⟩
  | exc c p S => exact (hb w).elim
  | bad => exact (hb w).elim
theorem wipe_idem : ∀ (vs : List Nat) (σ : L2.St), L2.wipe (L2.wipe σ vs) vs = L2.wipe σ vs
  | [], _ => rfl
  | v :: vs, σ => by
    show (L2.wipe ((L2.wipe σ vs).set v none) vs).set v none = (L2.wipe σ vs).set v none
    have go : ∀ (us : List Nat) (τ : L2.St), (L2.wipe (τ.set v none) us).set v none = (L2.wipe τ us).set v none := by
      intro us
      induction us with
      | nil => intro τ; show (τ.set v none).set v none = τ.set v none; rw [List.set_set]
      | cons k us ih =>
        intro τ
        show ((L2.wipe (τ.set v none) us).set k none).set v none = ((L2.wipe τ us).set k none).set v none
        by_cases e : k = v
        · subst e; rw [List.set_set, List.set_set]; exact ih τ
        · rw [List.set_comm _ _ e, ih τ, List.set_comm _ _ (Ne.symm e)]
    rw [go vs (L2.wipe σ vs), wipe_idem vs σ]
theorem bind_assoc' {α β γ : Type} (r : Res α) (k : α → AH → Res β) (l : β → AH → Res γ) : (r.bind k).bind l = r.bind fun a S => (k a S).bind l := by cases r <;> rfl
section
variable {X : Cx} {E : L2.St → XK} {elt tg iter : Expr} {ifs : List Expr} {scope : Scope} {own : List (Str × Nat)} {pos : Pos} {fi : Sig → AH → Res Its'} {q : Pat} {fc : Sig → AH → Res Bool} {fe : Sig → AH → Res DV}
theorem lc_t {σ : L2.St} {H : Hp} {Q : VK} {as : As} {δ : Sig} {S : AH} {vs : List Nat} (hq : ∀ i ∈ q.slots, i ∈ vs) (sr : SR (wd X) as H S) (er : ER (wd X) as H σ δ) (w : WF (wd X) (E σ) as H (dLc fi q fc fe vs δ S) Q) :
    tLc (tI (wd X) E fi) (tPat X.K q) (tDT (wd X) EN fc) (tD (wd X) EN fe) vs σ H Q := by
  refine ⟨as, δ, S, sr, er, (WF.bind w).mono fun _ _ _ H1 J _ _ _ _ ⟨as1, S1, x, _, e1, s1, y1, w1⟩ => ?_⟩
  obtain ⟨xs, ck⟩ := x
  intro D nD
  have er1 := er.mono e1.w
  have nh : ¬ as1.hid D := (s1.fresh nD).2
  dsimp only at w1 y1
  have hz : xs.length ≤ 16777216 := by
    refine Classical.byContradiction fun n => ?_
    rw [if_neg n] at w1
    exact w1
  rw [if_pos hz] at w1
  refine ⟨fun i m H => m = xs.length - i ∧ i ≤ xs.length ∧ ∃ (asm : As) (Sm : AH) (accV : List V) (accP : List PV), H D = some (.lst accV) ∧ accV.length ≤ i ∧ Ext as1 H1 asm (del H D) ∧ SR (wd X) asm (del H D) Sm ∧ PRs (wd X) asm (del H D) accV accP ∧
      WF (wd X) (E σ) asm (del H D) ((lcGo ck q fc fe (wipeD δ vs) (xs.drop i) Sm).bind fun ys S => .ok (accP ++ ys) S) Q, ⟨xs.length, rfl, Nat.zero_le _, as1, S1, [], [], upd_same, Nat.zero_le _, ?_⟩, ?_⟩
  · rw [del_upd nD]
    refine ⟨Ext.refl _ _, s1, .nil, ?_⟩
    rw [List.drop_zero]
    have e : ((lcGo ck q fc fe (wipeD δ vs) xs S1).bind fun ys S => Res.ok ([] ++ ys) S) = lcGo ck q fc fe (wipeD δ vs) xs S1 := by
      cases lcGo ck q fc fe (wipeD δ vs) xs S1 <;> rfl
    rw [e]
    exact w1
  · rintro i m H2 ⟨rfl, hi, asm, Sm, accV, accP, hD, hlen, em, sm, tm, wm⟩
    have eH : upd (del H2 D) D (.lst accV) = H2 := upd_del hD
    have nm : del H2 D D = none := del_same _ _
    have nhm : ¬ asm.hid D := by rw [em.hids]; exact nh
    have sh : SR (wd X) (asm.hide D) H2 Sm := by have := sm.hide (o := .lst accV) nm; rw [eH] at this; exact this
    have xw : Exw as1 H1 (asm.hide D) H2 := by have := em.w.hide (o := .lst accV) nD; rw [eH] at this; exact this
    by_cases hlt : i < xs.length
    · have hx : xs[i]? = some xs[i] := List.getElem?_eq_getElem hlt
      have hd : xs.drop i = xs[i] :: xs.drop (i + 1) := List.drop_eq_getElem_cons hlt
      rw [hd] at wm
      unfold lcGo at wm
      have hck : ck Sm := by
        refine Classical.byContradiction fun n => ?_
        rw [if_neg n] at wm
        exact wm
      rw [if_pos hck] at wm
      refine .inr ⟨y1.go _ _ _ xw sh hck i hlt, fun H' => (i + 1 ≤ xs.length ∧ ∃ (asm : As) (Sm : AH) (accV : List V) (accP : List PV), H' D = some (.lst accV) ∧ accV.length ≤ i + 1 ∧ Ext as1 H1 asm (del H' D) ∧ SR (wd X) asm (del H' D) Sm ∧ PRs (wd X) asm (del H' D) accV accP ∧
        WF (wd X) (E σ) asm (del H' D) ((lcGo ck q fc fe (wipeD δ vs) (xs.drop (i + 1)) Sm).bind fun ys S => .ok (accP ++ ys) S) Q), fun H' n => ⟨xs.length - (i + 1), by omega, rfl, n.1, n.2⟩, fun v H' yv => ?_⟩
      obtain ⟨e3, s3, r3⟩ := y1.yld _ _ _ xw sh hck i _ v H' hx yv
      cases eq : q.set xs[i] (wipeD δ vs) with
      | none => rw [eq] at wm; exact wm.elim
      | some δ2 =>
        rw [eq] at wm
        dsimp only at wm
        rw [bind_assoc'] at wm
        have erh : ER (wd X) (asm.hide D) H' (L2.wipe σ vs) (wipeD δ vs) := ((er1.mono xw).wipe vs).mono e3.w
        refine tPat_ok (M := wd X) q erh r3 eq fun σ2 er2 wi2 => ⟨by rw [wi2 vs hq, wipe_idem], ?_⟩
        obtain ⟨b, Sb, eb, wb⟩ := nox_cases (fun r => WF (wd X) (E σ) asm (del H2 D) r Q) (fun z => z) wm
        refine ⟨asm.hide D, δ2, Sm, s3, er2, ?_⟩
        rw [eb]
        intro as4 H4 b4 e4 s4 q4
        cases q4
        have ec : Ext (asm.hide D) (upd (del H2 D) D (.lst accV)) as4 H4 := by rw [eH]; exact e3.trans e4
        cases b with
        | false =>
          rw [if_neg Bool.false_ne_true] at wb ⊢
          obtain ⟨u1, u2, u3⟩ := Ext.unhide nm nhm ec
          rw [u2] at s4
          exact ⟨hlt, ⟨as4.cells, asm.hid⟩, Sb, accV, accP, u3, by omega, em.trans u1, s4.unhide nhm ⟨_, u3⟩, tm.mono u1.w, WF.later u1 wb⟩
        | true =>
          rw [if_pos rfl] at wb ⊢
          rw [bind_assoc'] at wb
          obtain ⟨d, Sd, ed, wd'⟩ := nox_cases (fun r => WF (wd X) (E σ) asm (del H2 D) r Q) (fun z => z) wb
          refine ⟨as4, δ2, Sb, s4, er2.mono e4.w, ?_⟩
          rw [ed]
          intro as5 H5 y e5 s5 r5
          have ec5 : Ext (asm.hide D) (upd (del H2 D) D (.lst accV)) as5 H5 := ec.trans e5
          obtain ⟨u1, u2, u3⟩ := Ext.unhide nm nhm ec5
          rw [u2] at s5 r5
          cases d with
          | c n => exact wd'.elim
          | p yv =>
            refine ⟨accV, u3, ?_, hlt, ⟨as5.cells, asm.hid⟩, Sd, accV ++ [y], accP ++ [yv], upd_same, by rw [List.length_append, List.length_singleton]; omega, ?_⟩
            · have hs : sizeLine = 16777216 := by decide
              omega
            rw [del_updu]
            refine ⟨em.trans u1, s5.unhide nhm ⟨_, u3⟩, (tm.mono u1.w).append (.cons (PR.unhide r5) .nil), ?_⟩
            have e : ((lcGo ck q fc fe (wipeD δ vs) (xs.drop (i + 1)) Sd).bind fun ys S => Res.ok (accP ++ [yv] ++ ys) S) = ((lcGo ck q fc fe (wipeD δ vs) (xs.drop (i + 1)) Sd).bind fun ys S => Res.ok (yv :: ys) S).bind fun ys S => Res.ok (accP ++ ys) S := by
              cases lcGo ck q fc fe (wipeD δ vs) (xs.drop (i + 1)) Sd <;> simp [Res.bind]
            rw [e]
            exact WF.later u1 wd'
    · have hi' : i = xs.length := by omega
      subst hi'
      rw [List.drop_length] at wm
      unfold lcGo at wm
      have hck : ck Sm := by
        refine Classical.byContradiction fun n => ?_
        rw [if_neg n] at wm
        exact wm
      rw [if_pos hck] at wm
      refine .inl ⟨y1.stop _ _ _ xw sh hck, ?_⟩
      have wq : WF (wd X) (E σ) asm (del H2 D) (Res.ok (accP ++ []) Sm) Q := wm
      rw [List.append_nil] at wq
      have := wq.here sm (by have hs : sizeLine = 16777216 := by decide
                             omega) tm nm
      rw [eH] at this
      exact this
theorem fe_lc (g : Gd X E) (hN : X.N.Nodup) (hi : DI X E tg iter fi) (ok : BlkOk X.N X.env.scope scope own)
    (hg : ∀ (s : Shared) (H : Hp) (C : Addr) (cl : List (Str × Addr)) (fp : List Addr), DG (X.blk s H scope (compEnvC scope cl C X.env) fp) tg q) (ht : ∀ (s : Shared) (H : Hp) (C : Addr) (cl : List (Str × Addr)) (fp : List Addr), DTs (X.blk s H scope (compEnvC scope cl C X.env) fp) EN ifs fc)
    (he : ∀ (s : Shared) (H : Hp) (C : Addr) (cl : List (Str × Addr)) (fp : List Addr), DE (X.blk s H scope (compEnvC scope cl C X.env) fp) EN elt fe) (hq : ∀ i ∈ q.slots, i ∈ own.map (·.2)) (hs : ∀ x, foldedSetIterable iter X.env x = pure x := by intro _; rfl) :
    FE X E (.ListComp elt [⟨tg, iter, ifs, 0⟩] scope pos) (dLc fi q fc fe (own.map (·.2))) :=
  L2.PE.imp (pe_lc g.calm hN hi ok hg ht he hs) fun σ H Q ⟨as, δ, S, sr, er, w⟩ => lc_t hq sr er w
end
end
end DL
namespace DL
noncomputable section
open PySem PySem.Spec PyProof.Rows L2

/-! ### statements -/
def WS (M : Wd) (E : L2.St → XK) (D : Ends) (as : As) (H : Hp) (o : Out) : Prop := match o with
  | .nx δ' S' => ∀ as' H' σ', Ext as H as' H' → SR M as' H' S' → ER M as' H' σ' δ' → D.nx σ' H'
  | .rt d S' => ∀ as' H' v, Ext as H as' H' → SR M as' H' S' → DVR M as' H' v d → D.rt v H'
  | .rtT ds S' => ∀ as' H' v, Ext as H as' H' → SR M as' H' S' → (∃ a vs, v = .ref a ∧ RdT M.K as' H' a vs ∧ DVRs M as' H' vs ds) → D.rt v H'
  | .bk δ' S' => ∀ as' H' σ', Ext as H as' H' → SR M as' H' S' → ER M as' H' σ' δ' → D.bk σ' H'
  | .ct δ' S' => ∀ as' H' σ', Ext as H as' H' → SR M as' H' S' → ER M as' H' σ' δ' → D.ct σ' H'
  | .exc c p δ' S' => ∀ as' H' σ' cls dd, Ext as H as' H' → SR M as' H' S' → ER M as' H' σ' δ' → ExR M as' H' c p cls dd → E σ' cls dd H'
  | .bad => False
def tS (M : Wd) (E : L2.St → XK) (f : Sig → AH → Out) : TS := fun D σ H => ∃ as δ S, SR M as H S ∧ ER M as H σ δ ∧ WS M E D as H (f δ S)
abbrev DS (X : Cx) (E : L2.St → XK) (st : Stmt) (f : Sig → AH → Out) : Prop := PS X st (tS (wd X) E f)
abbrev DSs (X : Cx) (E : L2.St → XK) (st : List Stmt) (f : Sig → AH → Out) : Prop := PSs X st (tS (wd X) E f)
theorem _root_.L2.PS.imp {X : Cx} {e : Stmt} {t t' : TS} (h : PS X e t) (i : ∀ D σ H, t' D σ H → t D σ H) : PS X e t' := ⟨fun pins s σ H D I q => h.run pins s σ H D I (i D σ H q)⟩
theorem _root_.L2.PSs.imp {X : Cx} {e : List Stmt} {t t' : TS} (h : PSs X e t) (i : ∀ D σ H, t' D σ H → t D σ H) : PSs X e t' := ⟨fun pins s σ H D I q => h.run pins s σ H D I (i D σ H q)⟩
def _root_.DL.Res.out {α : Type} (r : Res α) (δ : Sig) (k : α → AH → Out) : Out := match r with
  | .ok a S => k a S
  | .exc c p S => .exc c p δ S
  | .bad => .bad
@[simp] theorem out_ok {α : Type} (a : α) (S : AH) (δ : Sig) (k : α → AH → Out) : (Res.ok a S).out δ k = k a S := rfl
@[simp] theorem out_exc {α : Type} (c : Str) (p : List (Str × PV)) (S : AH) (δ : Sig) (k : α → AH → Out) : (Res.exc c p S : Res α).out δ k = .exc c p δ S := rfl
@[simp] theorem out_bad {α : Type} (δ : Sig) (k : α → AH → Out) : (Res.bad : Res α).out δ k = .bad := rfl
section
variable {M : Wd} {E : L2.St → XK} {D : Ends} {as as' : As} {H H' : Hp} {σ : L2.St} {δ : Sig} {α β : Type} {R : As → Hp → β → α → Prop}
theorem WS.later {o : Out} (x : Ext as H as' H') (w : WS M E D as H o) : WS M E D as' H' o := by
  cases o with
  | nx δ S => exact fun as2 H2 σ e => w as2 H2 σ (x.trans e)
  | rt d S => exact fun as2 H2 σ e => w as2 H2 σ (x.trans e)
  | rtT d S => exact fun as2 H2 σ e => w as2 H2 σ (x.trans e)
  | bk δ S => exact fun as2 H2 σ e => w as2 H2 σ (x.trans e)
  | ct δ S => exact fun as2 H2 σ e => w as2 H2 σ (x.trans e)
  | exc c p δ S => exact fun as2 H2 σ cls dd e => w as2 H2 σ cls dd (x.trans e)
  | bad => exact w
theorem WS.bind {r : Res α} {k : α → AH → Out} (w : WS M E D as H (r.out δ k)) (er : ER M as H σ δ) :
    WR M (E σ) R as H r (fun b H1 => ∃ as1 S1 a, r = .ok a S1 ∧ Ext as H as1 H1 ∧ SR M as1 H1 S1 ∧ R as1 H1 b a ∧ WS M E D as1 H1 (k a S1)) := by
  cases r with
  | ok a S => exact fun as2 H2 b e s q => ⟨as2, S, a, rfl, e, s, q, WS.later e w⟩
  | exc c p S => exact fun as2 H2 cls dd e s q => w as2 H2 σ cls dd e s (er.mono e.w) q
  | bad => exact w
theorem WS.here {S : AH} (w : WS M E D as H (.nx δ S)) (s : SR M as H S) (r : ER M as H σ δ) : D.nx σ H := w as H σ (Ext.refl _ _) s r
theorem WS.ret {d : DV} {S : AH} {v : V} (w : WS M E D as H (.rt d S)) (s : SR M as H S) (r : DVR M as H v d) : D.rt v H := w as H v (Ext.refl _ _) s r
end
def dPass : Sig → AH → Out := fun δ S => .nx δ S
def dBreak : Sig → AH → Out := fun δ S => .bk δ S
def dCont : Sig → AH → Out := fun δ S => .ct δ S
def dNever : Sig → AH → Out := fun _ _ => .bad
def dSeq (f g : Sig → AH → Out) : Sig → AH → Out := fun δ S => match f δ S with
  | .nx δ' S' => g δ' S'
  | o => o
def dDrop (f : Sig → AH → Res DV) : Sig → AH → Out := fun δ S => (f δ S).out δ fun _ S => .nx δ S
def dRet (f : Sig → AH → Res DV) : Sig → AH → Out := fun δ S => (f δ S).out δ fun d S => .rt d S
/-- a tuple that is given back, with cells in it -/
def dRetT (fs : Sig → AH → Res (List DV)) : Sig → AH → Out := fun δ S => (fs δ S).out δ fun ds S => if ds.length ≤ 1000 then .rtT ds S else .bad
def dRetN : Sig → AH → Out := fun _ S => .rt (.p .non) S
def dSet (i : Nat) (f : Sig → AH → Res DV) : Sig → AH → Out := fun δ S => (f δ S).out δ fun d S => .nx (δ.set i (some d)) S
def dAsg (q : Pat) (f : Sig → AH → Res DV) : Sig → AH → Out := fun δ S => (f δ S).out δ fun d S => match d with
  | .p x => match q.set (.p x) δ with
    | some δ' => .nx δ' S
    | none => .bad
  | .c _ => .bad
def dIf (c : Sig → AH → Res Bool) (f g : Sig → AH → Out) : Sig → AH → Out := fun δ S => (c δ S).out δ fun b S => if b = true then f δ S else g δ S
section
variable {X : Cx} {E : L2.St → XK} {st : Stmt} {rest sts sts2 : List Stmt} {e : Expr} {pos : Pos} {f g : Sig → AH → Out} {fe : Sig → AH → Res DV} {fc : Sig → AH → Res Bool} {q : Pat}
theorem dss_nil : DSs X E [] dPass := pss_nil.imp fun D σ H ⟨as, δ, S, sr, er, w⟩ => w.here sr er
theorem dss_cons (h1 : DS X E st f) (h2 : DSs X E rest g) : DSs X E (st :: rest) (dSeq f g) := (pss_cons h1 h2).imp fun D σ H ⟨as, δ, S, sr, er, w⟩ => by
  refine ⟨as, δ, S, sr, er, ?_⟩
  unfold dSeq at w
  split at w
  · rename_i δ1 S1 eq
    rw [eq]
    exact fun as' H' σ' x s r => ⟨as', δ1, S1, s, r, WS.later x w⟩
  · rename_i n
    cases eq : f δ S with
    | nx δ1 S1 => exact absurd eq (n _ _)
    | rt d S1 => rw [eq] at w; exact w
    | rtT d S1 => rw [eq] at w; exact w
    | bk δ1 S1 => rw [eq] at w; exact w
    | ct δ1 S1 => rw [eq] at w; exact w
    | exc c p δ1 S1 => rw [eq] at w; exact w
    | bad => rw [eq] at w; exact w
theorem dss_one (h1 : DS X E st f) : DSs X E [st] f := pss_one h1
theorem ds_pass : DS X E (.Pass pos) dPass := ps_pass.imp fun D σ H ⟨as, δ, S, sr, er, w⟩ => w.here sr er
theorem ds_break : DS X E (.Break pos) dBreak := ps_break.imp fun D σ H ⟨as, δ, S, sr, er, w⟩ => w as H σ (Ext.refl _ _) sr er
theorem ds_cont : DS X E (.Continue pos) dCont := ps_continue.imp fun D σ H ⟨as, δ, S, sr, er, w⟩ => w as H σ (Ext.refl _ _) sr er
theorem ds_never : DS X E st dNever := ps_never.imp fun D σ H ⟨as, δ, S, sr, er, w⟩ => w.elim
theorem dss_never : DSs X E sts dNever := pss_never.imp fun D σ H ⟨as, δ, S, sr, er, w⟩ => w.elim
theorem ds_expr (he : DE X E e fe) (hs : swapsWith e none pos.line X.env = pure false := by rfl) : DS X E (.Expr e pos) (dDrop fe) := (ps_expr he hs).imp fun D σ H ⟨as, δ, S, sr, er, w⟩ =>
  ⟨as, δ, S, sr, er, (w.bind er).mono fun _ _ _ _ _ _ _ _ _ ⟨as1, S1, d1, _, x1, s1, r1, w1⟩ => w1.here s1 (er.mono x1.w)⟩
theorem ds_ret (he : DE X E e fe) : DS X E (.Return (some e) pos) (dRet fe) := (ps_ret he).imp fun D σ H ⟨as, δ, S, sr, er, w⟩ =>
  ⟨as, δ, S, sr, er, (w.bind er).mono fun _ _ _ _ _ _ _ _ _ ⟨as1, S1, d1, _, x1, s1, r1, w1⟩ => w1.ret s1 r1⟩
theorem ds_retT {es : List Expr} {k} {pos' : Pos} {fs : Sig → AH → Res (List DV)} (ha : DA X E es fs) : DS X E (.Return (some (.Tuple es k pos')) pos) (dRetT fs) := (ps_ret (pe_tupZ ha)).imp fun D σ H ⟨as, δ, S, sr, er, w⟩ =>
  ⟨as, δ, S, sr, er, (w.bind er).mono fun _ _ _ _ vs _ _ _ _ ⟨as1, S1, ds, _, x1, s1, r1, w1⟩ => by
    split at w1
    · rename_i z
      have z2 : vs.length ≤ sizeLine := by rw [Paired.length r1]; exact le1000 z
      exact ⟨z2, fun p o n d => w1 as1 _ _ (ext_new s1 n) (s1.new n) ⟨p, vs, rfl, ⟨z2, .inl ⟨⟨o, d, upd_same⟩, s1.fresh n⟩⟩, DVRs.mono (ext_new s1 n).w r1⟩⟩
    · exact w1.elim⟩
theorem ds_retN : DS X E (.Return none pos) dRetN := ps_retN.imp fun D σ H ⟨as, δ, S, sr, er, w⟩ => w.ret sr .non
theorem ds_set {i : Nat} {x : Str} {pos' : Pos} (hN : X.N.Nodup) (hi : X.N[i]? = some x) (hx : Loc X.env.scope x) (he : DE X E e fe) (hs : swapsWith e (some (.Name x pos')) pos.line X.env = pure false := by rfl) (hf : X.fn x = true ∨ X.env.scope.names.lookup x = some .local := by first | exact .inl rfl | exact .inr rfl | assumption) :
    DS X E (.Assign [.Name x pos'] e pos) (dSet i fe) := (ps_set hN hi hx he hs hf).imp fun D σ H ⟨as, δ, S, sr, er, w⟩ =>
  ⟨as, δ, S, sr, er, (w.bind er).mono fun _ _ _ _ _ _ _ _ _ ⟨as1, S1, d1, _, x1, s1, r1, w1⟩ => w1.here s1 ((er.mono x1.w).set r1 i)⟩
theorem ds_asg {tg : Expr} (he : DE X E e fe) (hg : DG X tg q) (hs : swapsWithSole [tg] e pos.line X.env = pure false := by rfl) (hw : swappedStores [tg] e X.env = pure none := by rfl)
    (h1 : (assignEach [tg] X.env).map (·.2) = [assign tg X.env] := by rfl) : DS X E (.Assign [tg] e pos) (dAsg q fe) := (ps_asg he hg hs hw h1).imp fun D σ H ⟨as, δ, S, sr, er, w⟩ =>
  ⟨as, δ, S, sr, er, (w.bind er).mono fun _ _ _ _ _ _ _ _ _ ⟨as1, S1, d1, _, x1, s1, r1, w1⟩ => by
    split at w1
    · split at w1
      · rename_i δ' eq
        exact tPat_ok (M := wd X) q (er.mono x1.w) r1 eq fun σ' er' _ => w1.here s1 er'
      · exact w1.elim
    · exact w1.elim⟩
theorem ds_if {c : Expr} (hc : DT X E c fc) (ha : DSs X E sts f) (hb : DSs X E sts2 g) : DS X E (.If c sts sts2 pos) (dIf fc f g) := (ps_if hc ha hb).imp fun D σ H ⟨as, δ, S, sr, er, w⟩ =>
  ⟨as, δ, S, sr, er, (w.bind er).mono fun _ _ _ _ k _ _ _ _ ⟨as1, S1, d1, _, x1, s1, r1, w1⟩ => by
    cases r1
    cases k with
    | true => exact ⟨as1, δ, S1, s1, er.mono x1.w, w1⟩
    | false => exact ⟨as1, δ, S1, s1, er.mono x1.w, w1⟩⟩
end

/-! ### name = [..] -/
def dSetF (i : Nat) (f : Sig → AH → Res (List PV)) : Sig → AH → Out := dSet i (dVal f)
def dSetC (i : Nat) (f : Sig → AH → Res (List PV)) : Sig → AH → Out := dSet i (dCell f)
section
variable {X : Cx} {E : L2.St → XK} {elt tg iter : Expr} {ifs : List Expr} {scope : Scope} {own : List (Str × Nat)} {pos spos py : Pos} {fi : Sig → AH → Res Its'} {q : Pat} {fc : Sig → AH → Res Bool} {fe : Sig → AH → Res DV} {i : Nat} {y : Str}
theorem ds_setLcV (g : Gd X E) (hN : X.N.Nodup) (hy : X.N[i]? = some y) (hyl : X.env.scope.names.lookup y = some .local)
    (hsw : swapsWith (.ListComp elt [⟨tg, iter, ifs, 0⟩] scope pos) (some (.Name y py)) spos.line X.env = pure true) (hi : DI X E tg iter fi) (ok : BlkOk X.N X.env.scope scope own)
    (hg : ∀ (s : Shared) (H : Hp) (C : Addr) (cl : List (Str × Addr)) (fp : List Addr), DG (X.blk s H scope (compEnvC scope cl C X.env) fp) tg q) (ht : ∀ (s : Shared) (H : Hp) (C : Addr) (cl : List (Str × Addr)) (fp : List Addr), DTs (X.blk s H scope (compEnvC scope cl C X.env) fp) EN ifs fc)
    (he : ∀ (s : Shared) (H : Hp) (C : Addr) (cl : List (Str × Addr)) (fp : List Addr), DE (X.blk s H scope (compEnvC scope cl C X.env) fp) EN elt fe) (hq : ∀ i ∈ q.slots, i ∈ own.map (·.2)) (hs : ∀ x, foldedSetIterable iter X.env x = pure x := by intro _; rfl) :
    DS X E (.Assign [.Name y py] (.ListComp elt [⟨tg, iter, ifs, 0⟩] scope pos) spos) (dSetF i (dLc fi q fc fe (own.map (·.2)))) :=
  (ps_setLc g.calm hN hy hyl hsw hi ok hg ht he hs).imp fun D σ H ⟨as, δ, S, sr, er, w⟩ => lc_t hq sr er (WF.val ((w.bind er).mono fun _ _ _ _ v _ _ _ _ ⟨as1, S1, d1, _, x1, s1, r1, w1⟩ => w1.here s1 ((er.mono x1.w).set r1 i)))
theorem ds_setLcC (g : Gd X E) (hN : X.N.Nodup) (hy : X.N[i]? = some y) (hyl : X.env.scope.names.lookup y = some .local)
    (hsw : swapsWith (.ListComp elt [⟨tg, iter, ifs, 0⟩] scope pos) (some (.Name y py)) spos.line X.env = pure true) (hi : DI X E tg iter fi) (ok : BlkOk X.N X.env.scope scope own)
    (hg : ∀ (s : Shared) (H : Hp) (C : Addr) (cl : List (Str × Addr)) (fp : List Addr), DG (X.blk s H scope (compEnvC scope cl C X.env) fp) tg q) (ht : ∀ (s : Shared) (H : Hp) (C : Addr) (cl : List (Str × Addr)) (fp : List Addr), DTs (X.blk s H scope (compEnvC scope cl C X.env) fp) EN ifs fc)
    (he : ∀ (s : Shared) (H : Hp) (C : Addr) (cl : List (Str × Addr)) (fp : List Addr), DE (X.blk s H scope (compEnvC scope cl C X.env) fp) EN elt fe) (hq : ∀ i ∈ q.slots, i ∈ own.map (·.2)) (hs : ∀ x, foldedSetIterable iter X.env x = pure x := by intro _; rfl) :
    DS X E (.Assign [.Name y py] (.ListComp elt [⟨tg, iter, ifs, 0⟩] scope pos) spos) (dSetC i (dLc fi q fc fe (own.map (·.2)))) :=
  (ps_setLc g.calm hN hy hyl hsw hi ok hg ht he hs).imp fun D σ H ⟨as, δ, S, sr, er, w⟩ => lc_t hq sr er (WF.cell ((w.bind er).mono fun _ _ _ _ v _ _ _ _ ⟨as1, S1, d1, _, x1, s1, r1, w1⟩ => w1.here s1 ((er.mono x1.w).set r1 i)))
end

/-! ### a, b = x, y -/
def dPar (i j : Nat) (fs : Sig → AH → Res (List DV)) : Sig → AH → Out := fun δ S => (fs δ S).out δ fun ds S => match ds with
  | [d, e] => .nx ((δ.set i (some d)).set j (some e)) S
  | _ => .bad
def dPar3 (i j l : Nat) (fs : Sig → AH → Res (List DV)) : Sig → AH → Out := fun δ S => (fs δ S).out δ fun ds S => match ds with
  | [d, e, f] => .nx (((δ.set i (some d)).set j (some e)).set l (some f)) S
  | _ => .bad
section
variable {X : Cx} {E : L2.St → XK} {a b c : Expr} {px py pz pt pos : Pos} {kt k2 : Nat} {pt2 : Pos} {i j l : Nat} {x y z : Str} {fs : Sig → AH → Res (List DV)}
theorem ds_par (hc : X.calm = true) (hN : X.N.Nodup) (hi : X.N[i]? = some x) (hj : X.N[j]? = some y) (hij : i ≠ j)
    (hx : X.env.scope.names.lookup x = some .local) (hy : X.env.scope.names.lookup y = some .local) (ha : DA X E [a, b] fs)
    (hw : swappedStores [.Tuple [.Name x px, .Name y py] kt pt] (.Tuple [a, b] k2 pt2) X.env = pure (some [x, y]))
    (hs : swapsWithSole [.Tuple [.Name x px, .Name y py] kt pt] (.Tuple [a, b] k2 pt2) pos.line X.env = pure false := by rfl) :
    DS X E (.Assign [.Tuple [.Name x px, .Name y py] kt pt] (.Tuple [a, b] k2 pt2) pos) (dPar i j fs) := (ps_par hc hN hi hj hij hx hy ha hw hs).imp fun D σ H ⟨as, δ, S, sr, er, w⟩ =>
  ⟨as, δ, S, sr, er, (w.bind er).mono fun _ _ _ _ _ _ _ _ _ ⟨as1, S1, d1, _, x1, s1, r1, w1⟩ => by
    split at w1
    · obtain ⟨v, v2, rfl, r, r'⟩ := DVRs.two r1
      exact ⟨_, _, rfl, w1.here s1 (((er.mono x1.w).set r i).set r' j)⟩
    · exact w1.elim⟩
end

/-! ### stores -/
/-- o[i] = v -/
def setIx (o i v : DV) (S : AH) : Option AH := match o, i, v with
  | .c n, .p (.int k), .p x => match S[n]? with
    | some (.lst xs) => (ixN xs.length k).map fun j => S.set n (.lst (xs.set j x))
    | _ => none
  | .c n, .p (.int k), .c m => match S[n]? with
    | some (.nst ks) => (ixN ks.length k).map fun j => S.set n (.nst (ks.set j m))
    | _ => none
  | _, _, _ => none
def rSetD (M : Wd) : V → V → V → Hp → (Hp → Prop) → Prop := fun o i v H Q => ∃ as S a b c, SR M as H S ∧ DVR M as H o a ∧ DVR M as H i b ∧ DVR M as H v c ∧ ∃ S', setIx a b c S = some S' ∧ ∀ as' H', Ext as H as' H' → SR M as' H' S' → Q H'
theorem ow_setIx {X : Cx} : PSet X (rSetD (wd X)) := by
  intro pins s σ H o i v ov iv u Q I ro ri rv h
  obtain ⟨as, S, a, b, c, sr, r1, r2, r3, S', e, q⟩ := h
  unfold setIx at e
  split at e
  · obtain ⟨ad, ea, rfl⟩ := r1
    cases r2
    split at e
    · rename_i xs e2
      simp only [Option.map_eq_some_iff] at e
      obtain ⟨j, ej, rfl⟩ := e
      obtain ⟨b2, vs, eb, z, hb, t⟩ := sr.at e2
      rw [ea] at eb; cases eb
      rw [← t.length] at ej
      exact set_list pins s σ H _ _ v ov iv u Q I ro ri rv ⟨_, _, _, j, rfl, rfl, hb, ej, q _ _ (ext_write sr ea hb) (sr.write ea hb (by rw [List.length_set]; exact z) (t.set r3 j))⟩
    · cases e
  · obtain ⟨ad, ea, rfl⟩ := r1
    cases r2
    split at e
    · rename_i ks e2
      simp only [Option.map_eq_some_iff] at e
      obtain ⟨j, ej, rfl⟩ := e
      obtain ⟨b2, vs, eb, z, hb, t⟩ := sr.atN e2
      rw [ea] at eb; cases eb
      rw [← t.length] at ej
      exact set_list pins s σ H _ _ v ov iv u Q I ro ri rv ⟨_, _, _, j, rfl, rfl, hb, ej, q _ _ (ext_write sr ea hb) (sr.writeNest ea hb (by rw [List.length_set]; exact z) (t.set r3 j))⟩
    · cases e
  · cases e
def dSub (fe fo fi : Sig → AH → Res DV) : Sig → AH → Out := fun δ S => (fe δ S).out δ fun v S => (fo δ S).out δ fun o S => (fi δ S).out δ fun i S => match setIx o i v S with
  | some S' => .nx δ S'
  | none => .bad
section
variable {X : Cx} {E : L2.St → XK} {o i e : Expr} {pos tpos : Pos} {fe fo fi : Sig → AH → Res DV}
theorem ds_sub (he : DE X E e fe) (ho : DE X E o fo) (hi : DE X E i fi)
    (hs : swapsWithSole [.Subscript o i tpos] e pos.line X.env = pure false := by rfl) (hw : swappedStores [.Subscript o i tpos] e X.env = pure none := by rfl)
    (h1 : (assignEach [.Subscript o i tpos] X.env).map (·.2) = [assign (.Subscript o i tpos) X.env] := by rfl)
    (ha : ∀ v, assign (.Subscript o i tpos) X.env v = (do
      let ov ← holding [v] (eval o X.env)
      let iv ← holding [v, ov] (eval i X.env)
      standAt tpos
      holding [v, ov, iv] (setItem ov iv v)
      release [v, ov, iv] []) := by intro _; rfl) : DS X E (.Assign [.Subscript o i tpos] e pos) (dSub fe fo fi) :=
  (ps_asg he (pg_sub ho hi ow_setIx ha) hs hw h1).imp fun D σ H ⟨as, δ, S, sr, er, w⟩ =>
  ⟨as, δ, S, sr, er, (w.bind er).mono fun _ _ _ _ _ _ _ _ _ ⟨as1, S1, d1, _, x1, s1, r1, w1⟩ => ⟨as1, δ, S1, s1, er.mono x1.w, (w1.bind (er.mono x1.w)).mono fun _ _ _ _ _ _ _ _ _ ⟨as2, S2, d2, _, x2, s2, r2, w2⟩ =>
    ⟨as2, δ, S2, s2, (er.mono x1.w).mono x2.w, (w2.bind ((er.mono x1.w).mono x2.w)).mono fun _ _ _ _ _ _ _ _ _ ⟨as3, S3, d3, _, x3, s3, r3, w3⟩ => by
      split at w3
      · rename_i S' eq
        exact ⟨as3, S3, d2, d3, d1, s3, r2.mono x3.w, r3, (r1.mono x2.w).mono x3.w, S', eq, fun as' H' x s => w3 as' H' σ x s ((((er.mono x1.w).mono x2.w).mono x3.w).mono x.w)⟩
      · exact w3.elim⟩⟩⟩
end

/-! ### name op= e -/
def dAug (i : Nat) (o : Op2) (fe : Sig → AH → Res DV) : Sig → AH → Out := fun δ S => match δ[i]? with
  | some (some a) => (fe δ S).out δ fun b S => (lift (o a b S)).out δ fun d S => .nx (δ.set i (some d)) S
  | _ => .bad
def rIpD (M : Wd) (o : Op2) : TIp := fun x y H Q => ∃ as S d1 d2, SR M as H S ∧ DVR M as H x d1 ∧ DVR M as H y d2 ∧ WO M as H (o d1 d2 S) Q
def intO2 (f : Int → Int → Int) : Op2 := fun a b S => match a, b with
  | .p (.int i), .p (.int j) => some (.p (.int (f i j)), S)
  | _, _ => none
theorem ow_ip {X : Cx} {op : Operator} {f : Int → Int → Int} (h0 : PIp X op (ipI f)) : PIp X op (rIpD (wd X) (intO2 f)) := by
  intro pins s σ H x y v u Q I rx ry h
  obtain ⟨as, S, d1, d2, sr, r1, r2, w⟩ := h
  unfold intO2 at w
  split at w
  · cases r1; cases r2
    exact h0 pins s σ H _ _ v u Q I rx ry ⟨_, _, rfl, rfl, w.here sr (.int _)⟩
  · exact w.elim
theorem ow_iadd {X : Cx} : PIp X .Add (rIpD (wd X) (intO2 fun i j => i + j)) := ow_ip ip_add
theorem ow_isub {X : Cx} : PIp X .Sub (rIpD (wd X) (intO2 fun i j => i - j)) := ow_ip ip_sub
section
variable {X : Cx} {E : L2.St → XK} {e : Expr} {pos pos' : Pos} {fe : Sig → AH → Res DV} {i : Nat} {x : Str} {op : Operator} {o : Op2}
theorem ds_aug (hN : X.N.Nodup) (hi : X.N[i]? = some x) (hx : Loc X.env.scope x) (he : DE X E e fe) (ho : PIp X op (rIpD (wd X) o)) (hf : X.fn x = true ∨ X.env.scope.names.lookup x = some .local := by first | exact .inl rfl | exact .inr rfl | assumption) :
    DS X E (.AugAssign (.Name x pos') op e pos) (dAug i o fe) := (ps_aug hN hi hx he ho hf).imp fun D σ H ⟨as, δ, S, sr, er, w⟩ => by
  unfold dAug at w
  split at w
  · rename_i a ea
    obtain ⟨v, q, r⟩ := er.get i a ea
    refine ⟨v, q, as, δ, S, sr, er, (w.bind er).mono fun _ _ _ _ _ _ _ _ _ ⟨as1, S1, d1, _, x1, s1, r1, w1⟩ => ?_⟩
    refine ⟨as1, S1, a, d1, s1, r.mono x1.w, r1, ?_⟩
    refine WR.wo (E := E σ) ((w1.bind (er.mono x1.w)).mono fun _ _ _ _ _ _ _ _ _ ⟨as2, S2, d2, _, x2, s2, r2, w2⟩ => ?_)
    exact w2.here s2 (((er.mono x1.w).mono x2.w).set r2 i)
  · exact w.elim
end

/-! ### o[i] op= e, o a list -/
def rGetD (M : Wd) : V → V → Hp → VK → Prop := fun x y H Q => ∃ as S d1 d2 ps i p, SR M as H S ∧ DVR M as H x d1 ∧ DVR M as H y d2 ∧ litems d1 S = some ps ∧ d2 = .p (.int i) ∧ atI ps i = some p ∧ ∀ v, PR M as H v p → Q v H
theorem ow_get {X : Cx} : PGet X (rGetD (wd X)) := by
  intro pins s σ H x y v u Q I rx ry h
  obtain ⟨as, S, d1, d2, ps, i, p, sr, r1, r2, e1, rfl, e2, q⟩ := h
  cases r2
  obtain ⟨a, vs, rfl, z, hq, t⟩ := litems_sq sr r1 e1
  obtain ⟨zv, e3, r3⟩ := atI_prs t e2
  cases rx
  obtain ⟨t', rfl⟩ := ry
  obtain ⟨its, r, pl, hz⟩ := I.list hq
  obtain ⟨j, h1, h2, h3, h4, h5⟩ := atI_get e3
  obtain ⟨w, ew, rw'⟩ := r.get h2
  have hl := r.length
  have hn := line63
  have fin : EP X pins σ Q w s := ⟨zv, H, I, rw', q zv r3⟩
  by_cases h0 : 0 ≤ i
  · have hj : i.toNat = j := by
      rw [seqIndex_of h0 h5] at h1
      exact Option.some.inj h1
    exact wpAny_getItem_list pl.isList h0 (by omega) (by rw [hj]; simpa using ew) fin
  · have hj : (i + (its.toArray.size : Int)).toNat = j := by
      rw [seqIndex_neg (by omega) h4] at h1
      rw [List.size_toArray, ← hl]
      exact Option.some.inj h1
    exact wpAny_getItem_list_neg pl.isList (by omega) (by rw [List.size_toArray] <;> omega) (by omega) (by rw [hj]; simpa using ew) fin
def dAugS (o : Op2) (fo fi fe : Sig → AH → Res DV) : Sig → AH → Out := fun δ S => (fo δ S).out δ fun a S => (fi δ S).out δ fun b S => match b with
  | .p (.int i) => match (litems a S).bind fun ps => atI ps i with
    | some x => (fe δ S).out δ fun y S => (lift (o (.p x) y S)).out δ fun v S => match setIx a b v S with
      | some S' => .nx δ S'
      | none => .bad
    | none => .bad
  | _ => .bad
section
variable {X : Cx} {E : L2.St → XK} {ob i e : Expr} {pos tpos : Pos} {fe fo fi : Sig → AH → Res DV} {op : Operator} {o : Op2}
theorem ds_augS (ho : DE X E ob fo) (hi : DE X E i fi) (he : DE X E e fe) (hp : PIp X op (rIpD (wd X) o))
    (ha : ∀ ov iv new, augStore i ov iv new = (do holding [new, ov, iv] (setItem ov iv new); release [new, ov, iv] []; pure .next) := by intros; rfl) : DS X E (.AugAssign (.Subscript ob i tpos) op e pos) (dAugS o fo fi fe) :=
  (ps_augS ho hi ow_get he hp ow_setIx ha).imp fun D σ H ⟨as, δ, S, sr, er, w⟩ =>
  ⟨as, δ, S, sr, er, (w.bind er).mono fun _ _ _ _ _ _ _ _ _ ⟨as1, S1, d1, _, x1, s1, r1, w1⟩ => ⟨as1, δ, S1, s1, er.mono x1.w, (w1.bind (er.mono x1.w)).mono fun _ _ _ _ _ _ _ _ _ ⟨as2, S2, d2, _, x2, s2, r2, w2⟩ => by
    have er2 := (er.mono x1.w).mono x2.w
    split at w2
    · rename_i k
      split at w2
      · rename_i x ex
        simp only [Option.bind_eq_some_iff] at ex
        obtain ⟨ps, ep, ea⟩ := ex
        refine ⟨as2, S2, d1, _, ps, _, x, s2, r1.mono x2.w, r2, ep, rfl, ea, fun v rv => ?_⟩
        refine ⟨as2, δ, S2, s2, er2, (w2.bind er2).mono fun _ _ _ _ _ _ _ _ _ ⟨as3, S3, d3, _, x3, s3, r3, w3⟩ => ?_⟩
        refine ⟨as3, S3, .p x, d3, s3, rv.mono x3.w, r3, ?_⟩
        refine WR.wo (E := E σ) ((w3.bind (er2.mono x3.w)).mono fun _ _ _ _ _ _ _ _ _ ⟨as4, S4, d4, _, x4, s4, r4, w4⟩ => ?_)
        split at w4
        · rename_i S' eq
          exact ⟨as4, S4, d1, _, d4, s4, ((r1.mono x2.w).mono x3.w).mono x4.w, (r2.mono x3.w).mono x4.w, r4, S', eq, fun as' H' x s => w4 as' H' σ x s (((er2.mono x3.w).mono x4.w).mono x.w)⟩
        · exact w4.elim
      · exact w2.elim
    · exact w2.elim⟩⟩
end
end
end DL
namespace DL
noncomputable section
open PySem PySem.Spec PyProof.Rows L2

/-! ### for -/
open Classical in
noncomputable def forGo (ck : AH → Prop) (q : Pat) (fb : Sig → AH → Out) : List DV → Sig → AH → Out
  | [], δ, S => if ck S then .nx δ S else .bad
  | x :: xs, δ, S => if ck S then match q.set x δ with
    | none => .bad
    | some δ1 => match fb δ1 S with
      | .nx δ2 S2 => forGo ck q fb xs δ2 S2
      | .ct δ2 S2 => forGo ck q fb xs δ2 S2
      | .bk δ2 S2 => .nx δ2 S2
      | o => o
    else .bad
noncomputable def dFor (fi : Sig → AH → Res Its') (q : Pat) (fb : Sig → AH → Out) : Sig → AH → Out := fun δ S => (fi δ S).out δ fun x S1 => forGo x.2 q fb x.1 δ S1
section
variable {X : Cx} {E : L2.St → XK} {tg iter : Expr} {body : List Stmt} {pos : Pos} {fi : Sig → AH → Res Its'} {q : Pat} {fb : Sig → AH → Out}
theorem ds_for (g : Gd X E) (hi : DI X E tg iter fi) (hg : DG X tg q) (hb : DSs X E body fb) (hs : ∀ x, foldedSetIterable iter X.env x = pure x := by intro _; rfl) : DS X E (.For tg iter body [] pos) (dFor fi q fb) :=
  (ps_for g.po g.calm hi hg hb hs).imp fun D σ H ⟨as, δ, S, sr, er, w⟩ =>
  ⟨as, δ, S, sr, er, (w.bind er).mono fun _ _ _ H1 J _ _ _ _ ⟨as1, S1, x, _, e1, s1, y1, w1⟩ => by
    obtain ⟨xs, ck⟩ := x
    dsimp only at y1 w1
    refine ⟨fun i m σ H => m = xs.length - i ∧ i ≤ xs.length ∧ ∃ as' δ' S', Ext as1 H1 as' H ∧ SR (wd X) as' H S' ∧ ER (wd X) as' H σ δ' ∧ WS (wd X) E D as' H (forGo ck q fb (xs.drop i) δ' S'), ⟨xs.length, rfl, Nat.zero_le _, as1, δ, S1, Ext.refl _ _, s1, er.mono e1.w, w1⟩, ?_⟩
    rintro i m σ H ⟨rfl, hi, as2, δ2, S2, e2, s2, er2, w2⟩
    by_cases hlt : i < xs.length
    · have hx : xs[i]? = some xs[i] := List.getElem?_eq_getElem hlt
      have hd : xs.drop i = xs[i] :: xs.drop (i + 1) := List.drop_eq_getElem_cons hlt
      rw [hd] at w2
      unfold forGo at w2
      have hck : ck S2 := by
        refine Classical.byContradiction fun n => ?_
        rw [if_neg n] at w2
        exact w2
      rw [if_pos hck] at w2
      refine .inr ⟨y1.go _ _ _ e2.w s2 hck i hlt, fun σ H => i + 1 ≤ xs.length ∧ ∃ as' δ' S', Ext as1 H1 as' H ∧ SR (wd X) as' H S' ∧ ER (wd X) as' H σ δ' ∧ WS (wd X) E D as' H (forGo ck q fb (xs.drop (i + 1)) δ' S'), fun σ' H' n => ⟨xs.length - (i + 1), by omega, rfl, n.1, n.2⟩, fun v H' yv => ?_⟩
      obtain ⟨e3, s3, r3⟩ := y1.yld _ _ _ e2.w s2 hck i _ v H' hx yv
      cases eq : q.set xs[i] δ2 with
      | none => rw [eq] at w2; exact w2.elim
      | some δ3 =>
        rw [eq] at w2
        dsimp only at w2
        refine tPat_ok (M := wd X) q (er2.mono e3.w) r3 eq fun σ3 er3 _ => ⟨as2, δ3, S2, s3, er3, ?_⟩
        cases eb : fb δ3 S2 with
        | nx δ4 S4 =>
          rw [eb] at w2
          exact fun as' H' σ' x s r => ⟨hlt, as', δ4, S4, (e2.trans e3).trans x, s, r, WS.later (e3.trans x) w2⟩
        | ct δ4 S4 =>
          rw [eb] at w2
          exact fun as' H' σ' x s r => ⟨hlt, as', δ4, S4, (e2.trans e3).trans x, s, r, WS.later (e3.trans x) w2⟩
        | bk δ4 S4 =>
          rw [eb] at w2
          exact fun as' H' σ' x s r => w2 as' H' σ' (e3.trans x) s r
        | rt d S4 =>
          rw [eb] at w2
          exact fun as' H' v x s r => w2 as' H' v (e3.trans x) s r
        | rtT d S4 =>
          rw [eb] at w2
          exact fun as' H' v x s r => w2 as' H' v (e3.trans x) s r
        | exc c p δ4 S4 =>
          rw [eb] at w2
          exact fun as' H' σ' cls dd x s r => w2 as' H' σ' cls dd (e3.trans x) s r
        | bad => rw [eb] at w2; exact w2.elim
    · have hi' : i = xs.length := by omega
      subst hi'
      rw [List.drop_length] at w2
      unfold forGo at w2
      have hck : ck S2 := by
        refine Classical.byContradiction fun n => ?_
        rw [if_neg n] at w2
        exact w2
      rw [if_pos hck] at w2
      exact .inl ⟨y1.stop _ _ _ e2.w s2 hck, w2.here s2 er2⟩⟩
end

/-! ### while -/
def whN (fc : Sig → AH → Res Bool) (fb : Sig → AH → Out) : Nat → Sig → AH → Out
  | 0, _, _ => .bad
  | n + 1, δ, S => (fc δ S).out δ fun b S1 => if b = true then match fb δ S1 with
      | .nx δ2 S2 => whN fc fb n δ2 S2
      | .ct δ2 S2 => whN fc fb n δ2 S2
      | .bk δ2 S2 => .nx δ2 S2
      | o => o
    else .nx δ S1
theorem whN_up {fc : Sig → AH → Res Bool} {fb : Sig → AH → Out} : ∀ (n : Nat) (δ : Sig) (S : AH), whN fc fb n δ S ≠ .bad → whN fc fb (n + 1) δ S = whN fc fb n δ S
  | 0, δ, S, h => absurd rfl h
  | n + 1, δ, S, h => by
    unfold whN at h ⊢
    cases e : fc δ S with
    | bad => rw [e] at h; exact absurd rfl h
    | exc c p S1 => rfl
    | ok b S1 =>
      rw [e] at h
      simp only [out_ok] at h ⊢
      cases b with
      | false => rfl
      | true =>
        simp only [if_true] at h ⊢
        cases e2 : fb δ S1 with
        | nx δ2 S2 => rw [e2] at h; exact whN_up n δ2 S2 h
        | ct δ2 S2 => rw [e2] at h; exact whN_up n δ2 S2 h
        | bk δ2 S2 => rfl
        | rt d S2 => rfl
        | rtT d S2 => rfl
        | exc c p δ2 S2 => rfl
        | bad => rfl
theorem whN_le {fc : Sig → AH → Res Bool} {fb : Sig → AH → Out} {δ : Sig} {S : AH} {n : Nat} (h : whN fc fb n δ S ≠ .bad) : ∀ m, n ≤ m → whN fc fb m δ S = whN fc fb n δ S := by
  intro m hm
  induction m with
  | zero => have : n = 0 := by omega
            subst this; rfl
  | succ m ih =>
    by_cases e : n ≤ m
    · have q := ih e
      rw [whN_up m δ S (by rw [q]; exact h), q]
    · have : n = m + 1 := by omega
      rw [this]
open Classical in
noncomputable def dWhile (fc : Sig → AH → Res Bool) (fb : Sig → AH → Out) : Sig → AH → Out := fun δ S => if h : ∃ n, whN fc fb n δ S ≠ .bad then whN fc fb (choose h) δ S else .bad
theorem dWhile_at {fc : Sig → AH → Res Bool} {fb : Sig → AH → Out} {δ : Sig} {S : AH} {n : Nat} (h : whN fc fb n δ S ≠ .bad) : dWhile fc fb δ S = whN fc fb n δ S := by
  have hx : ∃ n, whN fc fb n δ S ≠ .bad := ⟨n, h⟩
  unfold dWhile
  rw [dif_pos hx]
  have hc := Classical.choose_spec hx
  by_cases e : n ≤ Classical.choose hx
  · exact whN_le h _ e
  · exact (whN_le hc _ (by omega)).symm
theorem dWhile_bad {fc : Sig → AH → Res Bool} {fb : Sig → AH → Out} {δ : Sig} {S : AH} (h : ∀ n, whN fc fb n δ S = .bad) : dWhile fc fb δ S = .bad := by
  unfold dWhile
  rw [dif_neg fun ⟨n, q⟩ => q (h n)]
/-- one turn -/
theorem dWhile_eq (fc : Sig → AH → Res Bool) (fb : Sig → AH → Out) (δ : Sig) (S : AH) : dWhile fc fb δ S = (fc δ S).out δ fun b S1 => if b = true then match fb δ S1 with
      | .nx δ2 S2 => dWhile fc fb δ2 S2
      | .ct δ2 S2 => dWhile fc fb δ2 S2
      | .bk δ2 S2 => .nx δ2 S2
      | o => o
    else .nx δ S1 := by
  have step : ∀ n, whN fc fb (n + 1) δ S = (fc δ S).out δ fun b S1 => if b = true then match fb δ S1 with
      | .nx δ2 S2 => whN fc fb n δ2 S2
      | .ct δ2 S2 => whN fc fb n δ2 S2
      | .bk δ2 S2 => .nx δ2 S2
      | o => o
    else .nx δ S1 := fun n => rfl
  have deep : ∀ (δ2 : Sig) (S2 : AH), (∀ n, whN fc fb (n + 1) δ S = whN fc fb n δ2 S2) → dWhile fc fb δ S = dWhile fc fb δ2 S2 := by
    intro δ2 S2 h
    by_cases hx : ∃ n, whN fc fb n δ2 S2 ≠ .bad
    · obtain ⟨n, hn⟩ := hx
      rw [dWhile_at hn, dWhile_at (n := n + 1) (by rw [h]; exact hn), h]
    · have h2 : ∀ n, whN fc fb n δ2 S2 = .bad := fun n => Classical.byContradiction fun q => hx ⟨n, q⟩
      rw [dWhile_bad h2]
      refine dWhile_bad fun n => ?_
      cases n with
      | zero => rfl
      | succ n => rw [h, h2]
  have flat : ∀ o : Out, (∀ n, whN fc fb (n + 1) δ S = o) → dWhile fc fb δ S = o := by
    intro o h
    by_cases e : o = .bad
    · subst e
      refine dWhile_bad fun n => ?_
      cases n with
      | zero => rfl
      | succ n => exact h n
    · rw [dWhile_at (n := 1) (by rw [h 0]; exact e), h 0]
  cases e : fc δ S with
  | bad => exact flat _ fun n => by rw [step, e]; rfl
  | exc c p S1 => exact flat _ fun n => by rw [step, e]; rfl
  | ok b S1 =>
    cases b with
    | false => exact flat _ fun n => by rw [step, e]; rfl
    | true =>
      cases e2 : fb δ S1 with
      | nx δ2 S2 =>
        simp only [out_ok, if_true, e2]
        exact deep _ _ fun n => by rw [step, e]; simp only [out_ok, if_true, e2]
      | ct δ2 S2 =>
        simp only [out_ok, if_true, e2]
        exact deep _ _ fun n => by rw [step, e]; simp only [out_ok, if_true, e2]
      | bk δ2 S2 => exact flat _ fun n => by rw [step, e]; simp only [out_ok, if_true, e2]
      | rt d S2 => exact flat _ fun n => by rw [step, e]; simp only [out_ok, if_true, e2]
      | rtT d S2 => exact flat _ fun n => by rw [step, e]; simp only [out_ok, if_true, e2]
      | exc c p δ2 S2 => exact flat _ fun n => by rw [step, e]; simp only [out_ok, if_true, e2]
      | bad => exact flat _ fun n => by rw [step, e]; simp only [out_ok, if_true, e2]
section
variable {X : Cx} {E : L2.St → XK} {c : Expr} {body : List Stmt} {pos : Pos} {fc : Sig → AH → Res Bool} {fb : Sig → AH → Out}
theorem ds_while (g : Gd X E) (hc : DT X E c fc) (hb : DSs X E body fb) : DS X E (.While c body [] pos) (dWhile fc fb) :=
  (ps_while g.po hc hb).imp fun D σ H ⟨as, δ, S, sr, er, w⟩ => by
  have hb : ∃ n, whN fc fb n δ S ≠ .bad := by
    refine Classical.byContradiction fun q => ?_
    rw [dWhile_bad fun n => Classical.byContradiction fun z => q ⟨n, z⟩] at w
    exact w
  obtain ⟨n, hn⟩ := hb
  rw [dWhile_at hn] at w
  refine ⟨fun m σ H => ∃ as δ S, SR (wd X) as H S ∧ ER (wd X) as H σ δ ∧ WS (wd X) E D as H (whN fc fb m δ S), ⟨n, as, δ, S, sr, er, w⟩, ?_⟩
  rintro m σ H ⟨as, δ, S, sr, er, w⟩
  cases m with
  | zero => exact w.elim
  | succ m =>
    unfold whN at w
    refine ⟨as, δ, S, sr, er, (w.bind er).mono fun _ _ _ H1 k _ _ _ _ ⟨as1, S1, d1, _, x1, s1, r1, w1⟩ => ?_⟩
    cases r1
    cases k with
    | false => exact w1.here s1 (er.mono x1.w)
    | true =>
      rw [if_pos rfl] at w1 ⊢
      refine ⟨fun σ H => ∃ as δ S, SR (wd X) as H S ∧ ER (wd X) as H σ δ ∧ WS (wd X) E D as H (whN fc fb m δ S), fun σ' H' h => ⟨m, Nat.lt_succ_self m, h⟩, as1, δ, S1, s1, er.mono x1.w, ?_⟩
      cases eb : fb δ S1 with
      | nx δ4 S4 =>
        rw [eb] at w1
        exact fun as' H' σ' x s r => ⟨as', δ4, S4, s, r, WS.later x w1⟩
      | ct δ4 S4 =>
        rw [eb] at w1
        exact fun as' H' σ' x s r => ⟨as', δ4, S4, s, r, WS.later x w1⟩
      | bk δ4 S4 =>
        rw [eb] at w1
        exact fun as' H' σ' x s r => w1 as' H' σ' x s r
      | rt d S4 =>
        rw [eb] at w1
        exact fun as' H' v x s r => w1 as' H' v x s r
      | rtT d S4 =>
        rw [eb] at w1
        exact fun as' H' v x s r => w1 as' H' v x s r
      | exc c p δ4 S4 =>
        rw [eb] at w1
        exact fun as' H' σ' cls dd x s r => w1 as' H' σ' cls dd x s r
      | bad => rw [eb] at w1; exact w1.elim
end

/-! ### raise, try -/
def dRaise (c : Str) : Sig → AH → Out := fun δ S => .exc c [] δ S
section
variable {X : Cx} {E : L2.St → XK} {e : Expr} {pos : Pos} {c : Str} {C : Addr}
theorem ds_raise (g : Gd X E) (he : PMk X e (fun _ H Q => Q (.ref C) none H)) (hm : X.mg c = some (.ref C)) : DS X E (.Raise (some e) none pos) (dRaise c) := (ps_raise g.calm g.tk he).imp fun D σ H ⟨as, δ, S, sr, er, w⟩ =>
  w as H σ (.ref C) none (Ext.refl _ _) sr er ⟨hm, fun _ => rfl, fun h => absurd rfl h⟩
end
def _root_.DL.Out.nox : Out → Out
  | .exc _ _ _ _ => .bad
  | o => o
/-- which classes a clause catches -/
def dTry (sub : Str → Option Bool) (fb fs : Sig → AH → Out) : Sig → AH → Out := fun δ S => match fb δ S with
  | .exc c p δ' S' => match sub c with
    | some true => (fs δ' S').nox
    | some false => .exc c p δ' S'
    | none => .bad
  | o => o
section
variable {X : Cx} {E : L2.St → XK} {x : Str} {c : Value} {body suite : List Stmt} {b₀ : Stmt} {np pos pos' : Pos} {fb fs : Sig → AH → Out} {sub : Str → Option Bool}
theorem ds_try (g : Gd X E) (hs : X.stack = X.env :: X.outer) (hf : X.env.frame = some X.env.locals) (hc : Names X x c) (hsub : ∀ n b cls, sub n = some b → X.mg n = some cls → PySem.W.exmOne X.K cls c = some b)
    (hb : ∀ (W : WX) (pn : List (Addr × Obj)) (xe : Value → Shared → Prop), Gd (X.tr pn xe) (WE W) → DSs (X.tr pn xe) (WE W) body fb)
    (hsu : ∀ (a : Addr) (pn : List (Addr × Obj)), DSs (X.suite a pn) EN (b₀ :: suite) fs) : DS X E (.Try body [.ExceptHandler (some (.Name x np)) none (b₀ :: suite) pos'] [] [] pos) (dTry sub fb fs) :=
  (ps_try_only (tb := fun W => tS (wd X) (WE W) fb) (ts := fun _ _ _ => tS (wd X) EN fs) (Wout := fun cls d σ H => E σ cls d H) hs hf hc g.tk (fun W pn xe tk po => hb W pn xe ⟨g.calm, tk, po⟩) (fun a oe cls d pn _ _ => hsu a _)).imp fun D σ H ⟨as, δ, S, sr, er, w⟩ => by
  refine ⟨as, δ, S, sr, er, ?_⟩
  unfold dTry at w
  split at w
  · rename_i n p δ' S' eq
    rw [eq]
    intro as' H' σ' cls dd x' s' r' ex
    split at w
    · rename_i e1
      refine ⟨true, hsub n true cls e1 ex.1, fun _ a na => ⟨as', δ', S', s', r', ?_⟩, fun z => Bool.noConfusion z⟩
      have w' := WS.later x' w
      cases ef : fs δ' S' with
      | nx δ4 S4 => rw [ef] at w'; exact w'
      | ct δ4 S4 => rw [ef] at w'; exact w'
      | bk δ4 S4 => rw [ef] at w'; exact w'
      | rt d S4 => rw [ef] at w'; exact w'
      | rtT d S4 => rw [ef] at w'; exact w'
      | exc c p δ4 S4 => rw [ef] at w'; exact w'.elim
      | bad => rw [ef] at w'; exact w'
    · rename_i e1
      exact ⟨false, hsub n false cls e1 ex.1, fun z => Bool.noConfusion z, fun _ => w as' H' σ' cls dd x' s' r' ex⟩
    · exact w.elim
  · rename_i n
    cases eq : fb δ S with
    | nx δ1 S1 => rw [eq] at w; exact w
    | rt d S1 => rw [eq] at w; exact w
    | rtT d S1 => rw [eq] at w; exact w
    | bk δ1 S1 => rw [eq] at w; exact w
    | ct δ1 S1 => rw [eq] at w; exact w
    | exc c p δ1 S1 => exact absurd eq (n _ _ _ _)
    | bad => rw [eq] at w; exact w
end

/-! ### defs -/
/-- a nest below may not name what is dropped, or it is as it was -/
def okc (n : Nat) (a b : Cell) : Prop := match b with
  | .lst _ => True
  | .nst ks => a = .nst ks ∨ ∀ k ∈ ks, k < n
  | .dct _ => True
  | .fn => True
  | .tab _ => True
def okC (n : Nat) : AH → AH → Prop
  | [], _ => True
  | _ :: _, [] => True
  | a :: S, b :: S' => okc n a b ∧ okC n S S'
theorem okC_get {n : Nat} : ∀ {S S' : AH} {i : Nat} {a : Cell} {ks : List Nat}, okC n S S' → S[i]? = some a → S'[i]? = some (.nst ks) → a = .nst ks ∨ ∀ k ∈ ks, k < n
  | [], _, i, a, ks, _, e, _ => by simp at e
  | _ :: _, [], i, a, ks, _, _, e => by simp at e
  | c :: S, d :: S', 0, a, ks, h, e, e' => by
    simp at e e'
    subst e e'
    exact h.1
  | c :: S, d :: S', i + 1, a, ks, h, e, e' => okC_get (i := i) h.2 (by simpa using e) (by simpa using e')
theorem okc_self (n : Nat) (a : Cell) : okc n a a := by
  cases a with
  | lst _ => trivial
  | nst ks => exact .inl rfl
  | dct _ => trivial
  | fn => trivial
  | tab _ => trivial
theorem okC_app (n : Nat) : ∀ (S J : AH), okC n S (S ++ J)
  | [], _ => trivial
  | a :: S, J => ⟨okc_self n a, okC_app n S J⟩
theorem okC_self (n : Nat) (S : AH) : okC n S S := by
  have := okC_app n S []
  rwa [List.append_nil] at this
def _root_.DL.Out.heap : Out → AH
  | .nx _ S => S
  | .rt _ S => S
  | .rtT _ S => S
  | .bk _ S => S
  | .ct _ S => S
  | .exc _ _ _ S => S
  | .bad => []
/-- a flat cell above n, frozen -/
def frzC (n : Nat) (S : AH) (k : Nat) : Option PV := if n ≤ k then match S[k]? with
    | some (.lst xs) => some (.lst xs)
    | _ => none
  else none
def frzCs (n : Nat) (S : AH) : List Nat → Option (List PV)
  | [] => some []
  | k :: ks => (frzC n S k).bind fun x => (frzCs n S ks).map fun r => x :: r
def frzD (n : Nat) (S : AH) : DV → Option PV
  | .p x => some x
  | .c k => if n ≤ k then match S[k]? with
      | some (.lst xs) => some (.lst xs)
      | some (.nst ks) => (frzCs n S ks).map .lst
      | _ => none
    else none
def frzDs (n : Nat) (S : AH) : List DV → Option (List PV)
  | [] => some []
  | d :: ds => (frzD n S d).bind fun x => (frzDs n S ds).map fun r => x :: r
/-- what a body gives: cells that nobody needs any more are dropped -/
def gcR (n : Nat) (keep : Bool) (o : Out) : Res DV := match o with
  | .nx _ S' => .ok (.p .non) (S'.take n)
  | .rt (.p v) S' => .ok (.p v) (S'.take n)
  | .rt (.c i) S' => if i < n then .ok (.c i) (S'.take n) else match S'[i]? with
    | some (.lst xs) => if keep = true then .ok (.c n) (S'.take n ++ [.lst xs]) else .ok (.p (.lst xs)) (S'.take n)
    | some (.nst ks) => match frzCs n S' ks with
      | some ps => .ok (.p (.lst ps)) (S'.take n)
      | _ => .bad
    | _ => .bad
  | .rtT ds S' => match frzDs n S' ds with
    | some ps => .ok (.p (.tup ps)) (S'.take n)
    | _ => .bad
  | .exc c p _ S' => .exc c p (S'.take n)
  | _ => .bad
open Classical in
def gcK (S : AH) (keep : Bool) (o : Out) : Res DV := if okC S.length S o.heap then gcR S.length keep o else .bad
def dDef (N n : Nat) (keep : Bool) (body : Sig → AH → Out) : List DV → AH → Res DV := fun ds S => if ds.length = n then gcK S keep (body (ds.map some ++ List.replicate (N - n) none) S) else .bad
section
variable {M : Wd} {as as' : As} {H H' : Hp} {S S' : AH}
theorem As.off_less {as as' : As} (hc : ∃ m, as'.cells = as.cells ++ m) (hh : as'.hid = as.hid) {a : Addr} (h : as'.off a) : as.off a := by
  obtain ⟨m, e⟩ := hc
  exact ⟨fun z => h.1 (by rw [e]; exact List.mem_append_left _ z), by rw [← hh]; exact h.2⟩
mutual
theorem PR.fewer (f : ∀ a, as'.off a → as.off a) : ∀ {v : V} {x : PV}, PR M as' H v x → PR M as H v x
  | _, _, .non => .non
  | _, _, .bl b => .bl b
  | _, _, .int i => .int i
  | _, _, .str y => .str y
  | _, _, .tup h t => .tup ⟨h.1, h.2.imp (fun ⟨e, q⟩ => ⟨e, f _ q⟩) id⟩ (PRs.fewer f t)
  | _, _, .lst ⟨z, e, q⟩ t => .lst ⟨z, e, f _ q⟩ (PRs.fewer f t)
  | _, _, .fro h t => .fro ⟨h.1, h.2.imp (fun ⟨e, q⟩ => ⟨e, f _ q⟩) id⟩ (PRs.fewer f t)
  | _, _, .glob h r => .glob h r
theorem PRs.fewer (f : ∀ a, as'.off a → as.off a) : ∀ {vs : List V} {ps : List PV}, PRs M as' H vs ps → PRs M as H vs ps
  | _, _, .nil => .nil
  | _, _, .cons h t => .cons (PR.fewer f h) (PRs.fewer f t)
end
theorem Ext.back (x : Ext as H as' H') : Ext as H as H' := ⟨⟨[], by simp⟩, rfl, fun a o e q => ⟨(x.keep a o e q).1, q⟩, x.hkeep, x.exts⟩
theorem cell_back (x : Ext as H as' H') (f : ∀ a, as'.off a → as.off a) (sr : SR M as H S) (s : SR M as' H' S') (ok : okC S.length S S') {i : Nat} {a : Addr} {c : Cell} (e1 : as.cells[i]? = some a) (e2 : S'[i]? = some c) : CR M as H' a c := by
  have q := s.cell i a c (x.get e1) e2
  cases c with
  | lst ps =>
    obtain ⟨vs, z, e, t⟩ := q
    exact ⟨vs, z, e, t.fewer f⟩
  | dct kvs =>
    obtain ⟨vs, z, e, t⟩ := q
    exact ⟨vs, z, e, t.fewer f⟩
  | fn => exact q
  | tab x => exact q
  | nst ks =>
    obtain ⟨vs, z, e, t⟩ := q
    refine ⟨vs, z, e, ?_⟩
    have hi : i < S.length := by rw [← sr.len]; exact (List.getElem?_eq_some_iff.mp e1).1
    have lt : ∀ k ∈ ks, k < as.cells.length := by
      rcases okC_get ok (List.getElem?_eq_getElem hi) e2 with h | h
      · obtain ⟨vs0, _, _, t0⟩ := sr.cell i a (.nst ks) e1 (by rw [List.getElem?_eq_getElem hi, h])
        have go : ∀ {vs : List V} {ks : List Nat}, KRs as vs ks → ∀ k ∈ ks, k < as.cells.length := by
          intro vs ks r
          induction r with
          | nil => intro k hk; cases hk
          | cons h t ih =>
            intro k hk
            rcases List.mem_cons.mp hk with rfl | hk
            · obtain ⟨b, e, _⟩ := h
              exact (List.getElem?_eq_some_iff.mp e).1
            · exact ih k hk
        exact go t0
      · rw [sr.len]; exact h
    obtain ⟨m, em⟩ := x.more
    have go : ∀ {vs : List V} {ks : List Nat}, KRs as' vs ks → (∀ k ∈ ks, k < as.cells.length) → KRs as vs ks := by
      intro vs ks r
      induction r with
      | nil => intro _; exact .nil
      | cons h t ih =>
        intro hk
        obtain ⟨b, e, r⟩ := h
        refine .cons ⟨b, ?_, r⟩ (ih fun k hk' => hk k (List.mem_cons_of_mem _ hk'))
        rw [em, List.getElem?_append_left (hk _ List.mem_cons_self)] at e
        exact e
    exact go t lt
theorem SR.back (x : Ext as H as' H') (sr : SR M as H S) (s : SR M as' H' S') (ok : okC S.length S S') : SR M as H' (S'.take S.length) := by
  obtain ⟨m, em⟩ := x.more
  have f : ∀ a, as'.off a → as.off a := fun a => As.off_less x.more x.hids
  have hlen : as.cells.length ≤ S'.length := by rw [← s.len, em, List.length_append]; omega
  refine ⟨by rw [List.length_take, ← sr.len]; omega, sr.nd, sr.apart, fun a ha => ?_, fun i a c e1 e2 => ?_⟩
  · obtain ⟨o, e⟩ := sr.hidd a ha
    exact ⟨o, x.hkeep a o ha e⟩
  · have hi : i < as.cells.length := (List.getElem?_eq_some_iff.mp e1).1
    rw [List.getElem?_take_of_lt (by rw [← sr.len]; exact hi)] at e2
    exact cell_back x f sr s ok e1 e2
theorem Ext.back1 (x : Ext as H as' H') {i : Nat} {a : Addr} (e : as'.cells[i]? = some a) : Ext as H (as.add a) H' := by
  refine ⟨⟨[a], rfl⟩, rfl, fun b o e1 q => ?_, x.hkeep, x.exts⟩
  obtain ⟨h1, h2⟩ := x.keep b o e1 q
  refine ⟨h1, fun z => ?_, q.2⟩
  rcases List.mem_append.mp z with z | z
  · exact q.1 z
  · have : b = a := by simpa using z
    subst this
    exact h2.1 (List.mem_of_getElem? e)
theorem SR.back1 (x : Ext as H as' H') (sr : SR M as H S) (s : SR M as' H' S') {i : Nat} {a : Addr} {xs : List PV} (ok : okC S.length S S') (hi : S.length ≤ i) (e : as'.cells[i]? = some a) (eS : S'[i]? = some (.lst xs)) : SR M (as.add a) H' (S'.take S.length ++ [.lst xs]) := by
  have b := SR.back x sr s ok
  obtain ⟨m, em⟩ := x.more
  have na : a ∉ as.cells := fun z => by
    obtain ⟨j, hj⟩ := List.mem_iff_getElem?.mp z
    have h1 : j < as.cells.length := (List.getElem?_eq_some_iff.mp hj).1
    have h2 := x.get hj
    have h3 : j < as'.cells.length := (List.getElem?_eq_some_iff.mp h2).1
    have h4 : i < as'.cells.length := (List.getElem?_eq_some_iff.mp e).1
    rw [List.getElem?_eq_getElem h3] at h2
    rw [List.getElem?_eq_getElem h4] at e
    have h5 := (List.getElem_inj s.nd).mp (show as'.cells[j] = as'.cells[i] by rw [Option.some.inj h2, Option.some.inj e])
    rw [sr.len] at h1
    omega
  have f : ∀ b, as'.off b → (as.add a).off b := fun b q => by
    refine ⟨fun z => ?_, fun z => q.2 (by rw [x.hids]; exact z)⟩
    rcases List.mem_append.mp z with z | z
    · exact q.1 (by rw [em]; exact List.mem_append_left _ z)
    · have : b = a := by simpa using z
      subst this
      exact q.1 (List.mem_of_getElem? e)
  have hl : (S'.take S.length).length = as.cells.length := b.len.symm
  refine ⟨by unfold As.add; rw [List.length_append, List.length_append, hl]; rfl, List.nodup_append.mpr ⟨sr.nd, by simp, fun c hc d hd z => ?_⟩, fun c hc => ?_, b.hidd, fun j c cl e1 e2 => ?_⟩
  · have : d = a := by simpa using hd
    subst this
    subst z
    exact na hc
  · rcases List.mem_append.mp hc with z | z
    · exact sr.apart c z
    · have : c = a := by simpa using z
      subst this
      exact fun q => s.apart c (List.mem_of_getElem? e) (by rw [x.hids]; exact q)
  · have e1 : (as.cells ++ [a])[j]? = some c := e1
    by_cases hj : j < as.cells.length
    · rw [List.getElem?_append_left hj] at e1
      rw [List.getElem?_append_left (by rw [hl]; exact hj)] at e2
      rw [List.getElem?_take_of_lt (by rw [← sr.len]; exact hj)] at e2
      have q := cell_back x (fun a => As.off_less x.more x.hids) sr s ok e1 e2
      cases cl with
      | lst ps =>
        obtain ⟨vs, z, e, t⟩ := q
        obtain ⟨vs', z', e', t'⟩ := s.cell j c (.lst ps) (x.get e1) e2
        exact ⟨vs', z', e', t'.fewer f⟩
      | dct kvs =>
        obtain ⟨vs', z', e', t'⟩ := s.cell j c (.dct kvs) (x.get e1) e2
        exact ⟨vs', z', e', t'.fewer f⟩
      | fn => exact q
      | tab x => exact q
      | nst ks =>
        obtain ⟨vs, z, e, t⟩ := q
        exact ⟨vs, z, e, Paired.mapP t fun _ _ ⟨b, e, r⟩ => ⟨b, by unfold As.add; rw [List.getElem?_append_left (List.getElem?_eq_some_iff.mp e).1]; exact e, r⟩⟩
    · have hl2 : j < (as.cells ++ [a]).length := (List.getElem?_eq_some_iff.mp e1).1
      rw [List.length_append, List.length_singleton] at hl2
      have hj' : j = as.cells.length := by omega
      subst hj'
      rw [List.getElem?_append_right (Nat.le_refl _), Nat.sub_self] at e1
      rw [← hl, List.getElem?_append_right (Nat.le_refl _), Nat.sub_self] at e2
      have e1' : a = c := by simpa using e1
      have e2' : Cell.lst xs = cl := by simpa using e2
      subst e1'
      subst e2'
      obtain ⟨b2, vs, eb, z, hb, t⟩ := s.at eS
      rw [e] at eb; cases eb
      exact ⟨vs, z, hb, t.fewer f⟩
end
/-- a cell above is off behind -/
theorem off_back {M : Wd} {as as' : As} {H H' : Hp} {S S' : AH} (x : Ext as H as' H') (sr : SR M as H S) (s : SR M as' H' S') {i : Nat} {a : Addr} (hi : S.length ≤ i) (ea : as'.cells[i]? = some a) : as.off a := by
  refine ⟨fun q => ?_, fun q => s.apart a (List.mem_of_getElem? ea) (by rw [x.hids]; exact q)⟩
  obtain ⟨j, hj⟩ := List.mem_iff_getElem?.mp q
  have h1 : j < as.cells.length := (List.getElem?_eq_some_iff.mp hj).1
  have h2 := x.get hj
  have h3 : j < as'.cells.length := (List.getElem?_eq_some_iff.mp h2).1
  have h4 : i < as'.cells.length := (List.getElem?_eq_some_iff.mp ea).1
  rw [List.getElem?_eq_getElem h3] at h2
  rw [List.getElem?_eq_getElem h4] at ea
  have h5 := (List.getElem_inj s.nd).mp (show as'.cells[j] = as'.cells[i] by rw [Option.some.inj h2, Option.some.inj ea])
  rw [sr.len] at h1
  omega
section
variable {M : Wd} {as as' : As} {H H' : Hp} {S S' : AH}
theorem frzC_ok (x : Ext as H as' H') (sr : SR M as H S) (s : SR M as' H' S') {k : Nat} {a : Addr} {p : PV} (ea : as'.cells[k]? = some a) (e : frzC S.length S' k = some p) : PR M as H' (.ref a) p := by
  unfold frzC at e
  split at e
  · rename_i hk
    split at e
    · rename_i xs eS
      cases e
      obtain ⟨b2, vs, eb, z, hb, t⟩ := s.at eS
      rw [ea] at eb; cases eb
      exact .lst ⟨z, hb, off_back x sr s hk ea⟩ (t.fewer fun a => As.off_less x.more x.hids)
    · cases e
  · cases e
theorem frzCs_ok (x : Ext as H as' H') (sr : SR M as H S) (s : SR M as' H' S') : ∀ {ks : List Nat} {vs : List V} {ps : List PV}, KRs as' vs ks → frzCs S.length S' ks = some ps → PRs M as H' vs ps
  | [], _, _, .nil, e => by cases e; exact .nil
  | k :: ks, _, _, .cons h t, e => by
    simp only [frzCs, Option.bind_eq_some_iff, Option.map_eq_some_iff] at e
    obtain ⟨y, e1, r, e2, rfl⟩ := e
    obtain ⟨b, eb, rfl⟩ := h
    exact .cons (frzC_ok x sr s eb e1) (frzCs_ok x sr s t e2)
theorem frzD_ok (x : Ext as H as' H') (sr : SR M as H S) (s : SR M as' H' S') {d : DV} {v : V} {p : PV} (r : DVR M as' H' v d) (e : frzD S.length S' d = some p) : PR M as H' v p := by
  cases d with
  | p y => cases e; exact PR.fewer (fun a => As.off_less x.more x.hids) r
  | c k =>
    obtain ⟨a, ea, rfl⟩ := r
    simp only [frzD] at e
    split at e
    · rename_i hk
      split at e
      · rename_i xs eS
        cases e
        obtain ⟨b2, vs, eb, z, hb, t⟩ := s.at eS
        rw [ea] at eb; cases eb
        exact .lst ⟨z, hb, off_back x sr s hk ea⟩ (t.fewer fun a => As.off_less x.more x.hids)
      · rename_i ks eS
        simp only [Option.map_eq_some_iff] at e
        obtain ⟨ps, e1, rfl⟩ := e
        obtain ⟨b2, vs, eb, z, hb, t⟩ := s.atN eS
        rw [ea] at eb; cases eb
        exact .lst ⟨z, hb, off_back x sr s hk ea⟩ (frzCs_ok x sr s t e1)
      · cases e
    · cases e
theorem frzDs_ok (x : Ext as H as' H') (sr : SR M as H S) (s : SR M as' H' S') : ∀ {ds : List DV} {vs : List V} {ps : List PV}, DVRs M as' H' vs ds → frzDs S.length S' ds = some ps → PRs M as H' vs ps
  | [], _, _, .nil, e => by cases e; exact .nil
  | d :: ds, _, _, .cons h t, e => by
    simp only [frzDs, Option.bind_eq_some_iff, Option.map_eq_some_iff] at e
    obtain ⟨y, e1, r, e2, rfl⟩ := e
    exact .cons (frzD_ok x sr s h e1) (frzDs_ok x sr s t e2)
end
theorem gc_ok {M : Wd} {E : XK} {as : As} {H : Hp} {S : AH} {Q : VK} {keep : Bool} {o : Out} (sr : SR M as H S) (w : WR M E (DVR M) as H (gcK S keep o) Q) : WS M (fun _ => E) { nx := fun _ H' => Q .non H', rt := Q } as H o := by
  have f : ∀ {as' : As} {H' : Hp}, Ext as H as' H' → ∀ a, as'.off a → as.off a := fun x a => As.off_less x.more x.hids
  have ok : okC S.length S o.heap := by
    refine Classical.byContradiction fun n => ?_
    unfold gcK at w
    rw [if_neg n] at w
    exact w
  unfold gcK at w
  rw [if_pos ok] at w
  cases o with
  | nx δ' S' => exact fun as' H' σ' x s r => w as H' .non x.back (SR.back x sr s ok) .non
  | rt d S' =>
    intro as' H' v x s r
    cases d with
    | p v => exact w as H' _ x.back (SR.back x sr s ok) (PR.fewer (f x) r)
    | c i =>
      unfold gcR at w
      dsimp only at w
      obtain ⟨a, ea, rfl⟩ := r
      split at w
      · rename_i hi
        refine w as H' _ x.back (SR.back x sr s ok) ⟨a, ?_, rfl⟩
        obtain ⟨m, em⟩ := x.more
        rw [em, List.getElem?_append_left (by rw [sr.len]; exact hi)] at ea
        exact ea
      · rename_i hi
        split at w
        · rename_i xs eS
          split at w
          · exact w (as.add a) H' _ (x.back1 ea) (SR.back1 x sr s ok (by omega) ea eS) ⟨a, by unfold As.add; rw [← sr.len]; simp, rfl⟩
          · obtain ⟨b2, vs, eb, z, hb, t⟩ := s.at eS
            rw [ea] at eb; cases eb
            exact w as H' _ x.back (SR.back x sr s ok) (PR.lst ⟨z, hb, off_back x sr s (by omega) ea⟩ (t.fewer (f x)))
        · rename_i ks eS
          split at w
          · rename_i ps e1
            obtain ⟨b2, vs, eb, z, hb, t⟩ := s.atN eS
            rw [ea] at eb; cases eb
            exact w as H' _ x.back (SR.back x sr s ok) (PR.lst ⟨z, hb, off_back x sr s (by omega) ea⟩ (frzCs_ok x sr s t e1))
          · exact w.elim
        · exact w.elim
  | rtT ds S' =>
    intro as' H' v x s ⟨a, vs, e, hT, r⟩
    subst e
    unfold gcR at w
    dsimp only at w
    split at w
    · rename_i ps e1
      refine w as H' _ x.back (SR.back x sr s ok) (PR.tup ⟨hT.1, ?_⟩ (frzDs_ok x sr s r e1))
      rcases hT.2 with ⟨e2, q⟩ | h
      · exact .inl ⟨e2, f x a q⟩
      · exact .inr h
    · exact w.elim
  | bk δ' S' => exact w.elim
  | ct δ' S' => exact w.elim
  | exc c p δ' S' =>
    intro as' H' σ' cls dd x s r ex
    refine w as H' cls dd x.back (SR.back x sr s ok) ⟨ex.1, ex.2.1, fun h => ?_⟩
    obtain ⟨d, fs, e1, e2, e3, e4⟩ := ex.2.2 h
    exact ⟨d, fs, e1, f x d e2, e3, Paired.mapP e4 fun _ _ q => ⟨q.1, PR.fewer (f x) q.2⟩⟩
  | bad => exact w
theorem er_start {M : Wd} {as : As} {H : Hp} {N : List Str} {vs : List V} {ds : List DV} (r : DVRs M as H vs ds) {n : Nat} (hn : ds.length = n) : ER M as H (L2.start N vs) (ds.map some ++ List.replicate (N.length - n) none) := by
  have hl : vs.length = ds.length := Paired.length r
  unfold L2.start
  refine ⟨by simp [hl, hn], fun i d e => ?_⟩
  by_cases hi : i < ds.length
  · rw [List.getElem?_append_left (by simpa using hi), List.getElem?_map] at e
    have hi' : i < vs.length := by omega
    rw [List.getElem?_append_left (by simpa using hi'), List.getElem?_map]
    rw [List.getElem?_eq_getElem hi] at e
    rw [List.getElem?_eq_getElem hi']
    have go : ∀ {vs : List V} {ds : List DV}, DVRs M as H vs ds → ∀ (i : Nat) (h1 : i < vs.length) (h2 : i < ds.length), DVR M as H vs[i] ds[i] := by
      intro vs ds r
      induction r with
      | nil => intro i h1; exact absurd h1 (Nat.not_lt_zero _)
      | cons h t ih =>
        intro i h1 h2
        cases i with
        | zero => exact h
        | succ i => exact ih i (Nat.lt_of_succ_lt_succ h1) (Nat.lt_of_succ_lt_succ h2)
    cases e
    exact ⟨vs[i], rfl, go r i hi' hi⟩
  · rw [List.getElem?_append_right (by simpa using hi), List.getElem?_replicate] at e
    split at e <;> cases e
section
variable {P : Program} {w : World} {K : PySem.W.Frag} {mg : Str → Option Value} {base : Heap}
/-- THE RULE for a def -/
theorem def_ok {x qual : Str} {st : Stmt} {f : Addr} {fd : FuncData} {N ps : List Str} {k : Nat} {n : Nat} {keep : Bool} {body : Sig → AH → Out} {nN : Nat} (F : Fun K x qual st f fd) (S : FnScope N ps (defScope st)) (hn : n = ps.length) (hN : nN = N.length)
    (hbody : ∀ (cdv : Value) (A : Around) (outer : List Env) (s : Shared) (H : Hp) (E : XK), Room k (A.deeper (envOfC qual (defScope st) s.heap.objs.size f cdv)) →
      Gd (cxOf (L2.CX P w) P w K mg base N qual (defScope st) f cdv A outer s H E) (fun _ => E) →
      DSs (cxOf (L2.CX P w) P w K mg base N qual (defScope st) f cdv A outer s H E) (fun _ => E) (defBody st) body) : FnOk P w K mg base (L2.CX P w) (k + 1) f fd ps (spD ⟨K, mg⟩ (dDef nN n keep body)) := by
  subst hn hN
  refine F.okX S (fun vs H Q E h => ?_) fun cdv A outer s H vs Q E hr h => ?_
  · obtain ⟨as, ds, S, sr, r, w⟩ := h
    unfold dDef at w
    split at w
    · rename_i e
      rw [← e]
      exact Paired.length r
    · exact w.elim
  · refine ⟨_, hbody cdv A outer s H E hr ⟨rfl, takes_of rfl rfl rfl rfl, passes_of rfl⟩, ?_⟩
    obtain ⟨as, ds, S, sr, r, w⟩ := h
    unfold dDef at w
    split at w
    · rename_i e
      exact ⟨as, _, S, sr, er_start r e, gc_ok sr w⟩
    · exact w.elim
end
end
end DL
namespace DL
noncomputable section
open PySem PySem.Spec PyProof.Rows L2

/-! ### x[::-1] -/
section
variable {prog : Program} {w : World} {A : Around} {E : Value → Shared → Prop} {s : Shared}
theorem applied_rev {sl : Addr} {u : Tok} {n : Nat} {Q : Int × Int × Nat → Shared → Prop} (hs : s.heap.IsSliceOf sl .none .none (.int (-1) u)) (h : Q ((n : Int) - 1, -1, n) s) :
    wpAny (model prog w) A (Builtin.Slice.sliceApplied (.ref sl) (pure (n : Int))) Q E s := by
  obtain ⟨os, hos, hcs, hds⟩ := id hs
  unfold Builtin.Slice.sliceApplied Builtin.Slice.sliceFields
  refine wpAny_bind (wpAny_bind (wpAny_field hos hds (x := .none) rfl (wpAny_bind (wpAny_field hos hds (x := .none) rfl (wpAny_bind (wpAny_field hos hds (x := .int (-1) u) rfl (wpAny_pure ?_)))))))
  refine wpAny_bind (slicePart_int ?_)
  show wpAny _ _ (if ((-1 : Int) == 0) = true then _ else _) _ _ s
  rw [if_neg (by decide)]
  refine wpAny_bind (slicePart_none (wpAny_bind (slicePart_none (wpAny_bind (wpAny_pure ?_)))))
  show wpAny _ _ (match Builtin.Slice.sliceAdjust none none (-1) (n : Int) with | (lo, hi) => pure (lo, (-1 : Int), Builtin.Slice.slicePlaces lo hi (-1))) _ _ s
  have e1 : Builtin.Slice.sliceAdjust none none (-1) (n : Int) = ((n : Int) - 1, -1) := by
    unfold Builtin.Slice.sliceAdjust
    simp
  rw [e1]
  show wpAny _ _ (pure ((n : Int) - 1, (-1 : Int), Builtin.Slice.slicePlaces ((n : Int) - 1) (-1) (-1))) _ _ s
  have e2 : Builtin.Slice.slicePlaces ((n : Int) - 1) (-1) (-1) = n := by
    unfold Builtin.Slice.slicePlaces
    have h1 : ¬ ((-1 : Int) > 0) := by decide
    rw [if_neg h1]
    by_cases hn : n = 0
    · subst hn; rw [if_neg (by decide)]; rfl
    · rw [if_pos (by omega)]
      have : ((n : Int) - 1 - -1 - 1) / - -1 + 1 = n := by
        rw [show - (-1 : Int) = 1 by decide, Int.ediv_one]; omega
      rw [this]; exact Int.toNat_natCast n
  rw [e2]
  exact wpAny_pure h
theorem pick_rev (xs : Array Value) : ((List.range xs.size).filterMap fun (m : Nat) => xs[((xs.size : Int) - 1 + (m : Int) * (-1)).toNat]?) = xs.toList.reverse := by
  have e : ∀ m, m < xs.size → xs[((xs.size : Int) - 1 + (m : Int) * (-1)).toNat]? = xs.toList.reverse[m]? := by
    intro m hm
    have h1 : ((xs.size : Int) - 1 + (m : Int) * (-1)).toNat = xs.size - 1 - m := by omega
    rw [h1, List.getElem?_reverse (by simpa using hm)]
    simp
  have gen : ∀ (l : List Value) (f : Nat → Option Value), (∀ m, m < l.length → f m = l[m]?) → (List.range l.length).filterMap f = l := by
    intro l
    induction l with
    | nil => intro f _; rfl
    | cons a l ih =>
      intro f h
      rw [List.length_cons, List.range_succ_eq_map, List.filterMap_cons, h 0 (by simp)]
      simp only [List.getElem?_cons_zero]
      rw [List.filterMap_map, ih (f ∘ Nat.succ) (fun m hm => by
        have := h (m + 1) (by simpa using hm)
        simpa using this)]
  have hl : xs.toList.reverse.length = xs.size := by simp
  rw [← hl]
  refine gen _ _ fun m hm => ?_
  rw [hl] at hm ⊢
  exact e m hm
theorem getItem_tuple_rev {t sl : Addr} {items : Array Value} {u : Tok} {Q : Value → Shared → Prop} (ht : IsTup s.heap t items) (hs : s.heap.IsSliceOf sl .none .none (.int (-1) u))
    (h : Q (.ref s.heap.objs.size) { s with heap := s.heap.push { cls := .type "tuple", data := .seq items.toList.reverse.toArray } }) (hsz : items.size ≤ sizeLine) : wpAny (model prog w) A (getItem (.ref t) (.ref sl)) Q E s := by
  have htake : sizeOk (.seq items.toList.reverse.toArray) := by
    show items.toList.reverse.toArray.size ≤ sizeLine
    rw [List.size_toArray, List.length_reverse, Array.length_toList]
    exact hsz
  obtain ⟨os, hos, hcs, hds⟩ := id hs
  have hTs : s.TypeIs (.ref sl) "slice" := ⟨os, hos, hcs⟩
  unfold getItem
  try with_reducible refine wpAny_holding ?_
  first | refine wpAny_bind (wpAny_pure ?_) | skip
  refine wpAny_bind (wpAny_sequenceKey ht.typeIs (by decide) ?_)
  refine wpAny_bind (wpAny_callSpecial?_slot (name := Str.ofString "__getitem__") ht.typeIs PyProof.Rows.slot_tuple_getitem
    (wpAny_call_entry PyProof.Rows.slot_tuple_getitem ht.typeIs entry_tuple_getitem ?_ (args_tuple_getitem _ _)))
  show wpAny _ _ (Builtin.Tuple.tupleItemsOf (.ref t) >>= _) _ _ s
  refine wpAny_bind (tupleItemsOf_ ht ?_)
  refine wpAny_bind (wpAny_typeOf hTs ?_)
  rw [if_pos (by decide)]
  refine wpAny_bind (applied_rev hs ?_)
  have hno : ¬ (((items.size : Int) - 1 == 0 && (-1 : Int) == 1 && items.size == items.size) = true) := by
    intro q
    rw [Bool.and_eq_true, Bool.and_eq_true] at q
    exact absurd q.1.2 (by decide)
  show wpAny _ _ (if ((items.size : Int) - 1 == 0 && (-1 : Int) == 1 && items.size == items.size) = true then _ else _) _ _ s
  rw [if_neg hno, pick_rev]
  first
    | exact wpAny_bind (m := Builtin.Tuple.tupleExact _) (wpAny_newObj_type (wpAny_pure ⟨_, rfl, wpAny_pure h⟩) htake)
    | exact wpAny_bind (m := Builtin.Tuple.tupleExact _) (wpAny_newObj_type (wpAny_bind (wpAny_pure (wpAny_pure ⟨_, rfl, wpAny_pure h⟩))) htake)
    | exact wpAny_bind (wpAny_bind (m := Builtin.Tuple.tupleExact _) (wpAny_newObj_type (wpAny_pure (wpAny_pure ⟨_, rfl, wpAny_pure h⟩)) htake))
    | exact wpAny_bind (wpAny_bind (m := Builtin.Tuple.tupleExact _) (wpAny_newObj_type (wpAny_pure ⟨_, rfl, wpAny_pure h⟩) htake))
end
def tRevA (K : PySem.W.Frag) (te : TE) : TE := fun σ H Q => te σ H fun x H1 => (∃ a xs, x = .ref a ∧ SqL K H1 a xs ∧ ∀ p, H1 p = none → Q (.ref p) (upd H1 p (.lst xs.reverse))) ∨ (∃ a xs, x = .ref a ∧ SqT K H1 a xs ∧ NewT H1 Q xs.reverse)
theorem pe_revA {X : Cx} {e : Expr} {te : TE} {k : Nat} {p1 p2 p3 pos : Pos} (he : PE X e te) : PE X (.Subscript e (.Slice none none (some (.UnaryOp .USub (.Constant (.int 1) k p1) p2)) p3) pos) (tRevA X.K te) := by
  refine ⟨fun pins s σ H Q I h => ?_⟩
  refine Subscript_ (thn (he.run pins s σ H _ I h) fun v s1 ⟨x, H1, I1, r1, q1⟩ => ?_)
  have hst : PO X (some (.UnaryOp .USub (.Constant (.int 1) k p1) p2)) (tPart (tUn (rU fun i => .int (-i)) (tC (.int 1)))) := po_some (pe_un un_neg pe_int)
  rcases q1 with ⟨a, xs, ex, hx, q⟩ | ⟨a, xs, ex, hx, q⟩
  · subst ex
    cases r1
    refine wpAny_Slice (thn (po_none.run pins s1 σ H1 (fun o H2 => o = none ∧ H2 = H1) I1 ⟨rfl, rfl⟩) fun vl s2 ⟨l, H2, I2, pl, el, e2⟩ => ?_)
    subst el e2
    refine thn (po_none.run pins s2 σ H2 (fun o H3 => o = none ∧ H3 = H2) I2 ⟨rfl, rfl⟩) fun vu s3 ⟨u, H3, I3, pu, eu, e3⟩ => ?_
    subst eu e3
    refine thn (hst.run pins s3 σ H3 (fun o H4 => o = some (-1) ∧ H4 = H3) I3 ⟨1, rfl, -1, rfl, rfl, rfl⟩) fun vs s4 ⟨o, H4, I4, ps, eo, e4⟩ => ?_
    subst eo e4
    have I5 : Inv X pins σ H4 { s4 with heap := s4.heap.push { cls := .type "slice", data := .fields #[vl, vu, vs] } } := I4.kept (t' := s4.toks) fun b ob q => Heap.get?_push_of_some _ q
    obtain ⟨its, r, ht, hz⟩ := I5.list hx
    have hlen := r.length
    show wpAny (model X.prog X.w) X.A (subscriptTail e (.Slice none none (some (.UnaryOp .USub (.Constant (.int 1) k p1) p2)) p3) (.ref a) (.ref s4.heap.objs.size)) (EP X pins σ Q) X.xe { s4 with heap := s4.heap.push { cls := .type "slice", data := .fields #[vl, vu, vs] } }
    refine tail_any (ops := [.ref a, .ref s4.heap.objs.size]) ht.isList.typeIs (PySem.slot_list_getitem.lookup) ?_ (by with_unfolding_all rfl)
    refine wpAny_getItem_list_slice ht.isList (Heap.IsSliceOf.new _ vl vu vs) pl pu ps (by decide) ?_ (by rw [List.size_toArray]; omega)
    rw [PySem.W.krv_pick]
    refine ⟨.ref _, _, I5.laid (t' := s4.toks) (o := .lst xs.reverse) (fun b ob q => Heap.get?_push_of_some _ q) (Nat.le_refl _) ?_, rfl, q _ (I5.hok.fresh (Nat.le_refl _))⟩
    exact ⟨by rw [List.length_reverse]; exact hz, _, 0, r.reverse, Heap.get?_push_size _ rfl⟩
  · subst ex
    cases r1
    refine wpAny_Slice (thn (po_none.run pins s1 σ H1 (fun o H2 => o = none ∧ H2 = H1) I1 ⟨rfl, rfl⟩) fun vl s2 ⟨l, H2, I2, pl, el, e2⟩ => ?_)
    subst el e2
    refine thn (po_none.run pins s2 σ H2 (fun o H3 => o = none ∧ H3 = H2) I2 ⟨rfl, rfl⟩) fun vu s3 ⟨u, H3, I3, pu, eu, e3⟩ => ?_
    subst eu e3
    refine thn (hst.run pins s3 σ H3 (fun o H4 => o = some (-1) ∧ H4 = H3) I3 ⟨1, rfl, -1, rfl, rfl, rfl⟩) fun vs s4 ⟨o, H4, I4, ps, eo, e4⟩ => ?_
    subst eo e4
    have I5 : Inv X pins σ H4 { s4 with heap := s4.heap.push { cls := .type "slice", data := .fields #[vl, vu, vs] } } := I4.kept (t' := s4.toks) fun b ob q => Heap.get?_push_of_some _ q
    obtain ⟨its, r, ht, hz⟩ := I5.tuple hx
    have hlen := r.length
    cases pl
    cases pu
    obtain ⟨t5, rfl⟩ : ∃ t, vs = Value.int (-1) t := by cases ps; exact ⟨_, rfl⟩
    show wpAny (model X.prog X.w) X.A (subscriptTail e (.Slice none none (some (.UnaryOp .USub (.Constant (.int 1) k p1) p2)) p3) (.ref a) (.ref s4.heap.objs.size)) (EP X pins σ Q) X.xe _
    refine tail_any (ops := [.ref a, .ref s4.heap.objs.size]) ht.typeIs (PyProof.Rows.slot_tuple_getitem.lookup) ?_ (by with_unfolding_all rfl)
    refine getItem_tuple_rev ht (Heap.IsSliceOf.new _ .none .none _) ?_ (by rw [List.size_toArray]; omega)
    exact lay_tup I5 (by rw [List.length_reverse]; exact hz) r.reverse q
def revO : Op1 := fun a S => match a with
  | .p (.tup xs) => some (.p (.tup xs.reverse), S)
  | _ => match litems a S with
    | some xs => some (.p (.lst xs.reverse), S)
    | none => none
section
variable {X : Cx} {E : L2.St → XK} {a : Expr} {k : Nat} {p1 p2 p3 pos : Pos} {fa : Sig → AH → Res DV}
theorem de_rev (ha : DE X E a fa) : DE X E (.Subscript a (.Slice none none (some (.UnaryOp .USub (.Constant (.int 1) k p1) p2)) p3) pos) (dUn revO fa) := (pe_revA ha).imp fun σ H Q ⟨as, δ, S, sr, er, w⟩ =>
  ⟨as, δ, S, sr, er, w.bind.mono fun _ _ _ _ _ _ _ _ _ ⟨as1, S1, d1, _, x1, s1, r1, w1⟩ => by
    unfold revO at w1
    split at w1
    · cases r1 with
      | tup h t => exact .inr ⟨_, _, rfl, h.sq, WO.tup (ps := _) (S := S1) (fun as' H' b => w1 as' H' b) s1 (by rw [List.length_reverse]; exact h.1) t.reverse⟩
    · split at w1
      · rename_i xs e
        obtain ⟨a, vs, rfl, z, q, t⟩ := litems_sq s1 r1 e
        exact .inl ⟨_, _, rfl, q, fun p n => WO.lst (ps := _) (S := S1) (fun as' H' b => w1 as' H' b) s1 (by rw [List.length_reverse]; exact z) t.reverse n⟩
      · exact w1.elim⟩
end

/-! ### methods of lists -/
abbrev OpM := DV → List DV → AH → Option (DV × AH)
def rMD (M : Wd) (o : OpM) : V → List V → Hp → VK → Prop := fun x vs H Q => ∃ as S d ds, SR M as H S ∧ DVR M as H x d ∧ DVRs M as H vs ds ∧ WO M as H (o d ds S) Q
def isLst (d : DV) (S : AH) : Bool := (litems d S).isSome || (nitems d S).isSome
theorem isLst_sq {M : Wd} {as : As} {H : Hp} {S : AH} {d : DV} {v : V} (h : SR M as H S) (r : DVR M as H v d) (e : isLst d S = true) : ∃ a vs, v = .ref a ∧ SqL M.K H a vs := by
  unfold isLst at e
  rcases Bool.or_eq_true_iff.mp e with e | e
  · obtain ⟨xs, e1⟩ := Option.isSome_iff_exists.mp e
    obtain ⟨a, vs, rfl, z, q, t⟩ := litems_sq h r e1
    exact ⟨a, vs, rfl, q⟩
  · obtain ⟨xs, e1⟩ := Option.isSome_iff_exists.mp e
    obtain ⟨a, vs, rfl, z, q, t⟩ := nitems_sq h r e1
    exact ⟨a, vs, rfl, .of q⟩
def dMeth (o : OpM) (fo : Sig → AH → Res DV) (fs : Sig → AH → Res (List DV)) : Sig → AH → Res DV := fun δ S => (fo δ S).bind fun d S => if isLst d S = true then (fs δ S).bind fun ds S => lift (o d ds S) else .bad
def dMeth0 (o : OpM) (fo : Sig → AH → Res DV) : Sig → AH → Res DV := fun δ S => (fo δ S).bind fun d S => if isLst d S = true then lift (o d [] S) else .bad
section
variable {X : Cx} {E : L2.St → XK} {ob e : Expr} {es : List Expr} {name : Str} {id : String} {apos cpos : Pos} {o : OpM} {fo : Sig → AH → Res DV} {fs : Sig → AH → Res (List DV)}
theorem de_meth (slot : Slot "list" name id) (hty : typeOf (.builtin id) = pure (.type "method_descriptor")) (hm : MtR X id (rMD (wd X) o)) (ho : DE X E ob fo) (ha : DA X E (e :: es) fs)
    (hbase : attributeBase ob name X.env (eval ob X.env) = eval ob X.env := by rfl)
    (hfew : ((backTo cpos (starEach (e :: es) X.env)).all (fun x => !x.1) && (backToKw cpos (keywordEach [] X.env)).all (fun x => x.1.isSome)
      && decide ((e :: es).length + ([] : List Keyword).length + (if ([] : List Keyword).isEmpty then 0 else 1) < 30)) = true := by rfl)
    (hline : (apos.endLine == cpos.line) = true := by rfl) (hs : starEach (e :: es) X.env = (false, eval e X.env) :: starEach es X.env := by rfl) (hplain : (backTo cpos (starEach es X.env)).any (·.1) = false := by rfl) :
    DE X E (.Call (.Attribute ob name apos) (e :: es) [] cpos) (dMeth o fo fs) := (pe_bm PySem.F.plainAttrs_list slot hty hm ho ha hbase hfew hline hs hplain).imp fun σ H Q ⟨as, δ, S, sr, er, w⟩ =>
  ⟨as, δ, S, sr, er, w.bind.mono fun _ _ _ _ _ _ _ _ _ ⟨as1, S1, d1, _, x1, s1, r1, w1⟩ => by
    split at w1
    · rename_i e1
      obtain ⟨a, vs, rfl, q⟩ := isLst_sq s1 r1 e1
      exact ⟨.inl ⟨rfl, _, q⟩, as1, δ, S1, s1, er.mono x1.w, w1.bind.mono fun _ _ _ _ _ _ _ _ _ ⟨as2, S2, d2, _, x2, s2, r2, w2⟩ => ⟨as2, S2, d1, d2, s2, r1.mono x2.w, r2, w2.wo⟩⟩
    · exact w1.elim⟩
theorem de_meth0 (slot : Slot "list" name id) (hty : typeOf (.builtin id) = pure (.type "method_descriptor")) (hm : MtR X id (rMD (wd X) o)) (ho : DE X E ob fo)
    (hbase : attributeBase ob name X.env (eval ob X.env) = eval ob X.env := by rfl) (hline : (apos.endLine == cpos.line) = true := by rfl) :
    DE X E (.Call (.Attribute ob name apos) [] [] cpos) (dMeth0 o fo) := (pe_bm0 PySem.F.plainAttrs_list slot hty hm ho hbase hline).imp fun σ H Q ⟨as, δ, S, sr, er, w⟩ =>
  ⟨as, δ, S, sr, er, w.bind.mono fun _ _ _ _ _ _ _ _ _ ⟨as1, S1, d1, _, x1, s1, r1, w1⟩ => by
    split at w1
    · rename_i e1
      obtain ⟨a, vs, rfl, q⟩ := isLst_sq s1 r1 e1
      exact ⟨.inl ⟨rfl, _, q⟩, as1, S1, d1, [], s1, r1, .nil, w1.wo⟩
    · exact w1.elim⟩
end
def appendM : OpM := fun d ds S => match d, ds with
  | .c n, [.p x] => match S[n]? with
    | some (.lst xs) => if xs.length < 16777216 then some (.p .non, S.set n (.lst (xs ++ [x]))) else none
    | _ => none
  | .c n, [.c k] => match S[n]? with
    | some (.nst ks) => if ks.length < 16777216 then some (.p .non, S.set n (.nst (ks ++ [k]))) else none
    | _ => none
  | _, _ => none
def popM : OpM := fun d ds S => match d, ds with
  | .c n, [] => match S[n]? with
    | some (.lst xs) => match xs[xs.length - 1]? with
      | some y => some (.p y, S.set n (.lst xs.dropLast))
      | none => none
    | _ => none
  | .c n, [.p (.int i)] => match S[n]? with
    | some (.lst xs) => if 0 ≤ i ∧ i < 1000000 then match xs[i.toNat]? with
        | some y => some (.p y, S.set n (.lst (xs.eraseIdx i.toNat)))
        | none => none
      else none
    | _ => none
  | _, _ => none
theorem PRs.eraseIdx {M : Wd} {as : As} {H : Hp} : ∀ {vs : List V} {ps : List PV} (i : Nat), PRs M as H vs ps → PRs M as H (vs.eraseIdx i) (ps.eraseIdx i)
  | _, _, _, .nil => .nil
  | _, _, 0, .cons _ t => t
  | _, _, i + 1, .cons r t => .cons r (PRs.eraseIdx i t)
/-- xs.remove(k) of numbers: the first one -/
def remM : OpM := fun d ds S => match d, ds with
  | .c n, [.p (.int k)] => match S[n]? with
    | some (.lst xs) => match intsOf xs with
      | some ns => if k ∈ ns then some (.p .non, S.set n (.lst ((ns.erase k).map PV.int))) else none
      | none => none
    | _ => none
  | _, _ => none
def cntM : OpM := fun d ds S => match ds with
  | [.p (.int k)] => match (litems d S).bind intsOf with
    | some ns => some (.p (.int (ns.count k : Nat)), S)
    | none => none
  | _ => none
def idxM : OpM := fun d ds S => match ds with
  | [.p (.int k)] => match (litems d S).bind intsOf with
    | some ns => if k ∈ ns then some (.p (.int (ns.idxOf k : Nat)), S) else none
    | none => none
  | _ => none
theorem idxOf_first : ∀ (ns : List Int) (k : Int) (m : Nat), m < ns.idxOf k → ns[m]? ≠ some k
  | [], _, _, h => by simp at h
  | a :: r, k, m, h => by
    rw [List.idxOf_cons] at h
    by_cases e : a = k
    · subst e; simp at h
    · have e' : (a == k) = false := beq_eq_false_iff_ne.mpr e
      rw [e'] at h
      simp only [cond_false] at h
      cases m with
      | zero => simpa using e
      | succ m =>
        rw [List.getElem?_cons_succ]
        exact idxOf_first r k m (by omega)
section
variable {X : Cx}
theorem ow_append : MtR X "list.append" (rMD (wd X) appendM) := by
  intro pins s σ H x vs v us Q I rx rv h
  obtain ⟨as, S, d, ds, sr, r1, r2, w⟩ := h
  unfold appendM at w
  split at w
  · obtain ⟨a, ea, rfl⟩ := r1
    obtain ⟨y, rfl, ry⟩ := DVRs.one r2
    split at w
    · rename_i xs e
      split at w
      · rename_i hz
        obtain ⟨b, ws, eb, z, hb, t⟩ := sr.at e
        rw [ea] at eb; cases eb
        have hl := t.length
        have hs : sizeLine = 16777216 := by decide
        have z2 : (ws ++ [y]).length ≤ sizeLine := by rw [List.length_append, List.length_singleton]; omega
        exact mt_append pins s σ H _ _ v us Q I rx rv ⟨_, _, _, rfl, rfl, hb, by omega, w as _ _ (ext_write sr ea hb) (sr.write ea hb z2 (t.append (.cons ry .nil))) .non⟩
      · exact w.elim
    · exact w.elim
  · obtain ⟨a, ea, rfl⟩ := r1
    obtain ⟨y, rfl, ry⟩ := DVRs.one r2
    split at w
    · rename_i ks e
      split at w
      · rename_i hz
        obtain ⟨b, ws, eb, z, hb, t⟩ := sr.atN e
        rw [ea] at eb; cases eb
        have hl := t.length
        have hs : sizeLine = 16777216 := by decide
        have z2 : (ws ++ [y]).length ≤ sizeLine := by rw [List.length_append, List.length_singleton]; omega
        exact mt_append pins s σ H _ _ v us Q I rx rv ⟨_, _, _, rfl, rfl, hb, by omega, w as _ _ (ext_write sr ea hb) (sr.writeNest ea hb z2 (t.append (.cons ry .nil))) .non⟩
      · exact w.elim
    · exact w.elim
  · exact w.elim
theorem ow_pop : MtR X "list.pop" (rMD (wd X) popM) := by
  intro pins s σ H x vs v us Q I rx rv h
  obtain ⟨as, S, d, ds, sr, r1, r2, w⟩ := h
  unfold popM at w
  split at w
  · obtain ⟨a, ea, rfl⟩ := r1
    cases r2
    split at w
    · rename_i xs e
      split at w
      · rename_i y ey
        obtain ⟨b, ws, eb, z, hb, t⟩ := sr.at e
        rw [ea] at eb; cases eb
        obtain ⟨yv, e2, r3⟩ := t.get ey
        rw [← t.length] at e2
        have z2 : ws.dropLast.length ≤ sizeLine := by rw [List.length_dropLast]; omega
        have x := ext_write (o := .lst ws.dropLast) sr ea hb
        exact mt_pop pins s σ H _ _ v us Q I rx rv ⟨_, _, _, rfl, rfl, hb, e2, w as _ _ x (sr.write ea hb z2 t.dropLast) (PR.mono x.w r3)⟩
      · exact w.elim
    · exact w.elim
  · obtain ⟨a, ea, rfl⟩ := r1
    obtain ⟨y, rfl, ry⟩ := DVRs.one r2
    cases ry
    rename_i i
    split at w
    · rename_i xs e
      split at w
      · rename_i hi
        split at w
        · rename_i y ey
          obtain ⟨b, ws, eb, z, hb, t⟩ := sr.at e
          rw [ea] at eb; cases eb
          obtain ⟨yv, e2, r3⟩ := t.get ey
          have hlt := (List.getElem?_eq_some_iff.mp e2).1
          have x := ext_write (o := .lst (ws.eraseIdx i.toNat)) sr ea hb
          exact mt_popAt pins s σ H _ _ v us Q I rx rv ⟨_, _, _, _, _, rfl, rfl, hb, by omega, by omega, seqIndex_of hi.1 (by omega), e2, w as _ _ x (sr.write ea hb (Nat.le_trans (L2.len_erase _ _) z) (t.eraseIdx _)) (PR.mono x.w r3)⟩
        · exact w.elim
      · exact w.elim
    · exact w.elim
  · exact w.elim
theorem ow_remove : MtR X "list.remove" (rMD (wd X) remM) := by
  intro pins s σ H x vs v us Q I rx rv h
  obtain ⟨as, S, d, ds, sr, r1, r2, w⟩ := h
  unfold remM at w
  split at w
  · obtain ⟨a, ea, rfl⟩ := r1
    obtain ⟨y, rfl, ry⟩ := DVRs.one r2
    cases ry
    rename_i k
    split at w
    · rename_i xs e
      split at w
      · rename_i ns en
        split at w
        · rename_i hk
          obtain ⟨b, ws, eb, z, hb, t⟩ := sr.at e
          rw [ea] at eb; cases eb
          rw [intsOf_ok en] at t
          rw [t.ints] at hb z
          have hlt := List.idxOf_lt_length_iff.mpr hk
          have e1 : ns[ns.idxOf k]? = some k := by
            rw [List.getElem?_eq_getElem hlt, List.getElem_idxOf hlt]
          rw [List.erase_eq_eraseIdx_of_idxOf rfl] at w
          refine mt_remove pins s σ H _ _ v us Q I rx rv ⟨_, ns, _, _, rfl, rfl, hb, e1, fun m hm q => ?_, w as _ _ (ext_write sr ea hb) (sr.write ea hb ?_ (PRs.of_ints _)) .non⟩
          · exact idxOf_first ns k m hm q
          · rw [List.length_map] at z ⊢
            exact Nat.le_trans (L2.len_erase _ _) z
        · exact w.elim
      · exact w.elim
    · exact w.elim
  · exact w.elim
theorem ow_count : MtR X "list.count" (rMD (wd X) cntM) := by
  intro pins s σ H x vs v us Q I rx rv h
  obtain ⟨as, S, d, ds, sr, r1, r2, w⟩ := h
  unfold cntM at w
  split at w
  · obtain ⟨y, rfl, ry⟩ := DVRs.one r2
    cases ry
    split at w
    · rename_i ns e
      simp only [Option.bind_eq_some_iff] at e
      obtain ⟨xs, e1, e2⟩ := e
      obtain ⟨a, ws, rfl, z, q, t⟩ := litems_sq sr r1 e1
      rw [intsOf_ok e2] at t
      rw [t.ints] at q
      exact mt_lcount pins s σ H _ _ v us Q I rx rv ⟨_, ns, _, rfl, rfl, q, w.here sr (.int _)⟩
    · exact w.elim
  · exact w.elim
end
end
end DL
namespace DL
noncomputable section
open PySem PySem.Spec PyProof.Rows L2

abbrev ltO : Op2 := cmpO fun i j => decide (i < j)
abbrev leO : Op2 := cmpO fun i j => decide (i ≤ j)
abbrev gtO : Op2 := cmpO fun i j => decide (j < i)
abbrev geO : Op2 := cmpO fun i j => decide (j ≤ i)
theorem b_len : bootBuiltins "len" = some (.builtin "len") := by decide +kernel
theorem b_abs : bootBuiltins "abs" = some (.builtin "abs") := by decide +kernel
theorem b_sum : bootBuiltins "sum" = some (.builtin "sum") := by decide +kernel
theorem b_all : bootBuiltins "all" = some (.builtin "all") := by decide +kernel
theorem b_any : bootBuiltins "any" = some (.builtin "any") := by decide +kernel
theorem b_min : bootBuiltins "min" = some (.builtin "min") := by decide +kernel
theorem b_max : bootBuiltins "max" = some (.builtin "max") := by decide +kernel
theorem b_sorted : bootBuiltins "sorted" = some (.builtin "sorted") := by decide +kernel
theorem b_int : bootBuiltins "int" = some (.type "int") := by decide +kernel
theorem b_bool : bootBuiltins "bool" = some (.type "bool") := by decide +kernel
theorem b_str : bootBuiltins "str" = some (.type "str") := by decide +kernel
theorem b_tuple : bootBuiltins "tuple" = some (.type "tuple") := by decide +kernel
theorem b_list : bootBuiltins "list" = some (.type "list") := by decide +kernel
section
variable {P : Program} {w : World} {K : PySem.W.Frag} {mg : Str → Option Value} {base : Heap} {CX : CXT}
theorem fn_bad {k : Nat} {f : Addr} {fd : FuncData} {ps : List Str} {B : Wd} : FnOk P w K mg base CX k f fd ps (spD B fun _ _ => .bad) := by
  have no : ∀ vs H Q E, ¬ spD B (fun _ _ => .bad) vs H Q E := fun vs H Q E ⟨_, _, _, _, _, h⟩ => h
  exact ⟨fun vs H Q E h => absurd h (no vs H Q E), fun A outer s H args us vs Q E _ _ _ _ h => absurd h (no vs H Q E)⟩
end
/-- what the law's def is to promise -/
def spLawD (K : PySem.W.Frag) : Sp := fun vs H Q E => ∃ (a : Addr) (ns : List Int), vs = [.ref a] ∧ Only H ∧ SqL K H a (ns.map V.int) ∧ ns.length ≤ 63 ∧ ∀ H', Q (.bl true) H'
theorem law_end {K : PySem.W.Frag} {mg : Str → Option Value} {F : List DV → AH → Res DV} (ht : ∀ ns : List Int, ns.length ≤ 63 → ∃ S, F [.p (.fro (ns.map PV.int))] [] = .ok (.p (.bl true)) S)
    {vs : List V} {H : Hp} {Q : VK} {E : XK} (h : spLawD K vs H Q E) : spD ⟨K, mg⟩ F vs H Q E := by
  obtain ⟨a, ns, rfl, hO, hS, h63, q⟩ := h
  obtain ⟨S, e⟩ := ht ns h63
  have z : (ns.map V.int).length ≤ sizeLine := by rw [List.length_map]; exact Nat.le_trans h63 (by decide)
  have r : RdF K ⟨[], fun _ => False⟩ H a (ns.map V.int) := by
    refine ⟨z, ?_⟩
    rcases hS with (hS | ⟨o, hS⟩) | hS
    · rcases hO a with n | ⟨o, xs, n⟩
      · rw [n] at hS; cases hS
      · rw [n] at hS; cases hS
    · exact .inl ⟨⟨o, hS⟩, (by simp), fun z => z⟩
    · exact .inr hS
  refine ⟨⟨[], fun _ => False⟩, [.p (.fro (ns.map PV.int))], [], ⟨rfl, List.nodup_nil, (fun _ _ z => z), (fun _ z => z.elim), fun i a c e1 _ => by simp at e1⟩, .cons (.fro (M := ⟨K, mg⟩) r (PRs.of_ints ns)) .nil, ?_⟩
  rw [e]
  intro as' H' b x s rr
  cases rr
  exact q H'
theorem walkD {l : PySem.W.OpenLaw} {k : Nat} {q : Program} {loose : List Str} {XP : (Str → Option Value) → Heap → Prop} {YP : World → Heap → Prop} {d : DefRec} {K : Params → PySem.W.Frag} (hn : l.most = some 63) (hdf : d.params.defaults = []) (hr : Room k callerA)
    (hY : ∀ (w : World) (h : Heap), YP w h → (K w.params).In h)
    (F : ∀ (w : World) (mg : Str → Option Value) (fa : Addr) (h : Heap), (K w.params).In h → h.Ns mainGlobals mg → mg d.name = some (.ref fa) →
      ∃ fd : FuncData, (∀ (s : Shared) (u : Value), BindsTo s fd ⟨[u], []⟩ [("script", u)]) ∧ ∀ base : Heap, FnOk l.prog w (K w.params) mg base (L2.CX l.prog w) k fa fd ["script"] (spLawD (K w.params))) :
    PySem.W.WalkO q loose XP YP l.row.toRowW d [] (fun f vs => PySem.call f vs) :=
  L2.walk_of (n := 63) (k := k) (x := "script") (CX := fun w => L2.CX l.prog w) (sp := fun w => spLawD (K w.params)) hn (by decide) hdf hr hY
    (fun w mg fa h KX G hm => let ⟨fd, hb, hF⟩ := F w mg fa h KX G hm; ⟨fd, hb, fun base _ _ => hF base⟩)
    (fun w H a ns hl hO hS => ⟨a, ns, rfl, hO, hS, hl, fun _ => rfl⟩)
    fun w H s e s' h => by
      obtain ⟨_, _, _, _, _, _, _, _, _, _, _, _, z⟩ := h
      exact z
/-- a class is caught by its own name -/
theorem sub_ok {K : PySem.W.Frag} {C : Addr} {x n : Str} {b : Bool} {cls : Value} {mg : Str → Option Value} (i : PySem.W.isClsIn K C = true) (t : PySem.W.typeIn K (.ref C) = some (.type "type")) (bb : PySem.W.subIn K (.ref C) (.type "BaseException") = some true) (s : PySem.W.subIn K (.ref C) (.ref C) = some true)
    (m : mg x = some (.ref C)) (hs : (if n = x then some true else none) = some b) (hm : mg n = some cls) : PySem.W.exmOne K cls (.ref C) = some b := by
  split at hs
  · rename_i e
    subst e
    cases hs
    rw [m] at hm
    cases hm
    have k1 : (PySem.W.subIn K (.ref C) (.type "BaseException") == some true) = true := by rw [bb] <;> rfl
    have k3 : (PySem.W.clsIn K C).isSome = true := i
    have k2 : ((PySem.W.clsIn K C).isSome && PySem.W.typeIn K (.ref C) == some (.type "type")) = true := by rw [k3, t] <;> rfl
    unfold PySem.W.exmOne PySem.W.kitCls
    simp only [k1, k2, if_true, s]
  · cases hs
end
end DL
namespace DL
noncomputable section
open PySem L2

/-! ### evaluation by simp: continuations as constants, so that nothing is looked at ahead of its turn -/
section
variable {α : Type} {δ : Sig} {S : AH} {fa fb fc : Sig → AH → Res DV} {ga gb : Sig → AH → Res Bool} {fs : Sig → AH → Res (List DV)} {fl : Sig → AH → Res (List PV)} {f g : Sig → AH → Out}
def vget (o : Option (Option DV)) (S : AH) : Res DV := match o with
  | some (some d) => .ok d S
  | _ => .bad
@[simp] theorem vget_some {d : DV} : vget (some (some d)) S = .ok d S := (rfl)
@[simp] theorem ev_var {i : Nat} : dVar i δ S = vget δ[i]? S := by
  unfold dVar vget
  rfl
@[simp] theorem ev_con {v : PV} : dC v δ S = .ok (.p v) S := (rfl)
def kUn (o : Op1) (a : DV) (S : AH) : Res DV := lift (o a S)
@[simp] theorem ev_un {o : Op1} : dUn o fa δ S = (fa δ S).bind (kUn o) := (rfl)
@[simp] theorem ev_kUn {o : Op1} {a : DV} : kUn o a S = lift (o a S) := (rfl)
def kBin (o : Op2) (fb : Sig → AH → Res DV) (δ : Sig) (a : DV) (S : AH) : Res DV := (fb δ S).bind fun b S => lift (o a b S)
def kBin2 (o : Op2) (a b : DV) (S : AH) : Res DV := lift (o a b S)
@[simp] theorem ev_bin {o : Op2} : dBin o fa fb δ S = (fa δ S).bind (kBin o fb δ) := (rfl)
@[simp] theorem ev_kBin {o : Op2} {a : DV} : kBin o fb δ a S = (fb δ S).bind (kBin2 o a) := (rfl)
@[simp] theorem ev_kBin2 {o : Op2} {a b : DV} : kBin2 o a b S = lift (o a b S) := (rfl)
@[simp] theorem ev_nil : dNil δ S = .ok [] S := (rfl)
def kCons (fr : Sig → AH → Res (List DV)) (δ : Sig) (a : DV) (S : AH) : Res (List DV) := (fr δ S).bind fun r S => .ok (a :: r) S
def kCons2 (a : DV) (r : List DV) (S : AH) : Res (List DV) := .ok (a :: r) S
@[simp] theorem ev_cons : dCons fa fs δ S = (fa δ S).bind (kCons fs δ) := (rfl)
@[simp] theorem ev_kCons {a : DV} : kCons fs δ a S = (fs δ S).bind (kCons2 a) := (rfl)
@[simp] theorem ev_kCons2 {a : DV} {r : List DV} : kCons2 a r S = .ok (a :: r) S := (rfl)
def kApp (o : OpN) (ds : List DV) (S : AH) : Res DV := lift (o ds S)
@[simp] theorem ev_app {o : OpN} : dApp o fs δ S = (fs δ S).bind (kApp o) := (rfl)
@[simp] theorem ev_kApp {o : OpN} {ds : List DV} : kApp o ds S = lift (o ds S) := (rfl)
def kTru (a : DV) (S : AH) : Res Bool := lift ((truD a S).map fun k => (k, S))
@[simp] theorem ev_tru : dTru fa δ S = (fa δ S).bind kTru := (rfl)
@[simp] theorem ev_kTru_bl {b : Bool} : kTru (.p (.bl b)) S = .ok b S := (rfl)
@[simp] theorem ev_kTru_int {i : Int} : kTru (.p (.int i)) S = .ok (i != 0) S := (rfl)
@[simp] theorem ev_kTru_non : kTru (.p .non) S = .ok false S := (rfl)
def kNot (a : Bool) (S : AH) : Res Bool := .ok (!a) S
@[simp] theorem ev_not : dNot ga δ S = (ga δ S).bind kNot := (rfl)
@[simp] theorem ev_kNot {a : Bool} : kNot a S = .ok (!a) S := (rfl)
def kAnd (gb : Sig → AH → Res Bool) (δ : Sig) (a : Bool) (S : AH) : Res Bool := if a = true then gb δ S else .ok false S
def kOr (gb : Sig → AH → Res Bool) (δ : Sig) (a : Bool) (S : AH) : Res Bool := if a = true then .ok true S else gb δ S
@[simp] theorem ev_and : dAnd ga gb δ S = (ga δ S).bind (kAnd gb δ) := (rfl)
@[simp] theorem ev_or : dOr ga gb δ S = (ga δ S).bind (kOr gb δ) := (rfl)
@[simp] theorem ev_kAnd_t : kAnd gb δ true S = gb δ S := (rfl)
@[simp] theorem ev_kAnd_f : kAnd gb δ false S = .ok false S := (rfl)
@[simp] theorem ev_kOr_t : kOr gb δ true S = .ok true S := (rfl)
@[simp] theorem ev_kOr_f : kOr gb δ false S = gb δ S := (rfl)
def kAndV (fb : Sig → AH → Res DV) (δ : Sig) (a : DV) (S : AH) : Res DV := match truD a S with
  | some k => if k = true then fb δ S else .ok a S
  | none => .bad
def kOrV (fb : Sig → AH → Res DV) (δ : Sig) (a : DV) (S : AH) : Res DV := match truD a S with
  | some k => if k = true then .ok a S else fb δ S
  | none => .bad
@[simp] theorem ev_andV : dAndV fa fb δ S = (fa δ S).bind (kAndV fb δ) := (rfl)
@[simp] theorem ev_orV : dOrV fa fb δ S = (fa δ S).bind (kOrV fb δ) := (rfl)
@[simp] theorem ev_kAndV_t : kAndV fb δ (.p (.bl true)) S = fb δ S := (rfl)
@[simp] theorem ev_kAndV_f : kAndV fb δ (.p (.bl false)) S = .ok (.p (.bl false)) S := (rfl)
@[simp] theorem ev_kOrV_t : kOrV fb δ (.p (.bl true)) S = .ok (.p (.bl true)) S := (rfl)
@[simp] theorem ev_kOrV_f : kOrV fb δ (.p (.bl false)) S = fb δ S := (rfl)
def kNotV (a : DV) (S : AH) : Res DV := lift ((truD a S).map fun k => (.p (.bl (!k)), S))
@[simp] theorem ev_notV : dNotV fa δ S = (fa δ S).bind kNotV := (rfl)
@[simp] theorem ev_kNotV {b : Bool} : kNotV (.p (.bl b)) S = .ok (.p (.bl (!b))) S := (rfl)
def kIte (fa fb : Sig → AH → Res DV) (δ : Sig) (c : Bool) (S : AH) : Res DV := if c = true then fa δ S else fb δ S
@[simp] theorem ev_ite : dIte ga fa fb δ S = (ga δ S).bind (kIte fa fb δ) := (rfl)
@[simp] theorem ev_kIte_t : kIte fa fb δ true S = fa δ S := (rfl)
@[simp] theorem ev_kIte_f : kIte fa fb δ false S = fb δ S := (rfl)
def kCh3 (o' : Op2) (b c : DV) (S : AH) : Res DV := lift (o' b c S)
def kCh2 (o' : Op2) (fc : Sig → AH → Res DV) (δ : Sig) (b k : DV) (S : AH) : Res DV := match k with
  | .p (.bl true) => (fc δ S).bind (kCh3 o' b)
  | .p (.bl false) => .ok (.p (.bl false)) S
  | _ => .bad
def kCh1 (o o' : Op2) (fc : Sig → AH → Res DV) (δ : Sig) (a b : DV) (S : AH) : Res DV := (lift (o a b S)).bind (kCh2 o' fc δ b)
def kCh (o o' : Op2) (fb fc : Sig → AH → Res DV) (δ : Sig) (a : DV) (S : AH) : Res DV := (fb δ S).bind (kCh1 o o' fc δ a)
@[simp] theorem ev_chain {o o' : Op2} : dChain o o' fa fb fc δ S = (fa δ S).bind (kCh o o' fb fc δ) := (rfl)
@[simp] theorem ev_kCh {o o' : Op2} {a : DV} : kCh o o' fb fc δ a S = (fb δ S).bind (kCh1 o o' fc δ a) := (rfl)
@[simp] theorem ev_kCh1 {o o' : Op2} {a b : DV} : kCh1 o o' fc δ a b S = (lift (o a b S)).bind (kCh2 o' fc δ b) := (rfl)
@[simp] theorem ev_kCh2_t {o' : Op2} {b : DV} : kCh2 o' fc δ b (.p (.bl true)) S = (fc δ S).bind (kCh3 o' b) := (rfl)
@[simp] theorem ev_kCh2_f {o' : Op2} {b : DV} : kCh2 o' fc δ b (.p (.bl false)) S = .ok (.p (.bl false)) S := (rfl)
@[simp] theorem ev_kCh3 {o' : Op2} {b c : DV} : kCh3 o' b c S = lift (o' b c S) := (rfl)
def kBl (a : DV) (S : AH) : Res Bool := match a with
  | .p (.bl k) => .ok k S
  | _ => .bad
@[simp] theorem ev_blOf : blOf fa δ S = (fa δ S).bind kBl := (rfl)
@[simp] theorem ev_kBl {b : Bool} : kBl (.p (.bl b)) S = .ok b S := (rfl)
def kTup (ds : List DV) (S : AH) : Res DV := match pvs ds with
  | some ps => if ps.length ≤ 1000 then .ok (.p (.tup ps)) S else .bad
  | none => .bad
@[simp] theorem ev_tup : dTup fs δ S = (fs δ S).bind DL.kTup := (rfl)
def kLst (ds : List DV) (S : AH) : Res (List PV) := match pvs ds with
  | some ps => if ps.length ≤ 1000 then .ok ps S else .bad
  | none => .bad
@[simp] theorem ev_lst : dLst fs δ S = (fs δ S).bind kLst := (rfl)
def kVal (ps : List PV) (S : AH) : Res DV := .ok (.p (.lst ps)) S
@[simp] theorem ev_val : dVal fl δ S = (fl δ S).bind kVal := (rfl)
@[simp] theorem ev_kVal {ps : List PV} : kVal ps S = .ok (.p (.lst ps)) S := (rfl)
def kCell (ps : List PV) (S : AH) : Res DV := .ok (.c S.length) (S ++ [.lst ps])
@[simp] theorem ev_cell : dCell fl δ S = (fl δ S).bind kCell := (rfl)
@[simp] theorem ev_kCell {ps : List PV} : kCell ps S = .ok (.c S.length) (S ++ [.lst ps]) := (rfl)
@[simp] theorem ev_noPart : dNoPart δ S = .ok none S := (rfl)
def kPart (a : DV) (S : AH) : Res (Option Int) := match a with
  | .p (.int i) => .ok (some i) S
  | _ => .bad
@[simp] theorem ev_part : dPart fa δ S = (fa δ S).bind kPart := (rfl)
@[simp] theorem ev_kPart {i : Int} : kPart (.p (.int i)) S = .ok (some i) S := (rfl)
def kSl3 (a : DV) (l h : Option Int) (S : AH) : Res DV := lift (slO a l h S)
def kSl2 (fh : Sig → AH → Res (Option Int)) (δ : Sig) (a : DV) (l : Option Int) (S : AH) : Res DV := (fh δ S).bind (kSl3 a l)
def kSl (fl fh : Sig → AH → Res (Option Int)) (δ : Sig) (a : DV) (S : AH) : Res DV := (fl δ S).bind (kSl2 fh δ a)
@[simp] theorem ev_sl {fl fh : Sig → AH → Res (Option Int)} : dSl fa fl fh δ S = (fa δ S).bind (kSl fl fh δ) := (rfl)
@[simp] theorem ev_kSl {fl fh : Sig → AH → Res (Option Int)} {a : DV} : kSl fl fh δ a S = (fl δ S).bind (kSl2 fh δ a) := (rfl)
@[simp] theorem ev_kSl2 {fh : Sig → AH → Res (Option Int)} {a : DV} {l : Option Int} : kSl2 fh δ a l S = (fh δ S).bind (kSl3 a l) := (rfl)
@[simp] theorem ev_kSl3 {a : DV} {l h : Option Int} : kSl3 a l h S = lift (slO a l h S) := (rfl)
def kAppF (o : OpF) (ds : List DV) (S : AH) : Res (List PV) := match o ds S with
  | some ps => .ok ps S
  | none => .bad
@[simp] theorem ev_appF {o : OpF} : dAppF o fs δ S = (fs δ S).bind (kAppF o) := (rfl)
def kIsi (T : String) (a : DV) (S : AH) : Res DV := match tyName a S with
  | some t => .ok (.p (.bl (isTy t T))) S
  | none => .bad
@[simp] theorem ev_isi {T : String} : dIsi T fa δ S = (fa δ S).bind (kIsi T) := (rfl)
def kIsiT (Ts : List String) (a : DV) (S : AH) : Res DV := match tyName a S with
  | some t => .ok (.p (.bl (Ts.any fun T => isTy t T))) S
  | none => .bad
@[simp] theorem ev_isiT {Ts : List String} : dIsiT Ts fa δ S = (fa δ S).bind (kIsiT Ts) := (rfl)
@[simp] theorem ev_call {F : List DV → AH → Res DV} : dCall F fs δ S = (fs δ S).bind F := (rfl)
def kMeth2 (o : OpM) (d : DV) (ds : List DV) (S : AH) : Res DV := lift (o d ds S)
def kMeth (o : OpM) (fs : Sig → AH → Res (List DV)) (δ : Sig) (d : DV) (S : AH) : Res DV := if isLst d S = true then (fs δ S).bind (kMeth2 o d) else .bad
@[simp] theorem ev_meth {o : OpM} : dMeth o fa fs δ S = (fa δ S).bind (kMeth o fs δ) := (rfl)
@[simp] theorem ev_kMeth2 {o : OpM} {d : DV} {ds : List DV} : kMeth2 o d ds S = lift (o d ds S) := (rfl)
theorem ev_kMeth {o : OpM} {d : DV} {xs : List PV} (h : litems d S = some xs) : kMeth o fs δ d S = (fs δ S).bind (kMeth2 o d) := by unfold kMeth isLst; rw [h]; rfl
theorem ev_kMethN {o : OpM} {d : DV} {ks : List Nat} (h : nitems d S = some ks) : kMeth o fs δ d S = (fs δ S).bind (kMeth2 o d) := by unfold kMeth isLst; rw [h, Option.isSome_some, Bool.or_true, if_pos rfl]
def kMeth0 (o : OpM) (d : DV) (S : AH) : Res DV := if isLst d S = true then lift (o d [] S) else .bad
@[simp] theorem ev_meth0 {o : OpM} : dMeth0 o fa δ S = (fa δ S).bind (kMeth0 o) := (rfl)
theorem ev_kMeth0 {o : OpM} {d : DV} {xs : List PV} (h : litems d S = some xs) : kMeth0 o d S = lift (o d [] S) := by unfold kMeth0 isLst; rw [h]; rfl
/- statements -/
def Out.seq (o : Out) (g : Sig → AH → Out) : Out := match o with
  | .nx δ S => g δ S
  | o => o
@[simp] theorem ev_seq : dSeq f g δ S = (f δ S).seq g := by
  unfold dSeq Out.seq
  rfl
@[simp] theorem seq_nx : (Out.nx δ S).seq g = g δ S := (rfl)
@[simp] theorem seq_rt {d : DV} : (Out.rt d S).seq g = .rt d S := (rfl)
@[simp] theorem seq_exc {c : Str} {p : List (Str × PV)} : (Out.exc c p δ S).seq g = .exc c p δ S := (rfl)
@[simp] theorem seq_bad : Out.bad.seq g = .bad := (rfl)
@[simp] theorem seq_bk : (Out.bk δ S).seq g = .bk δ S := (rfl)
@[simp] theorem seq_ct : (Out.ct δ S).seq g = .ct δ S := (rfl)
@[simp] theorem ev_pass : dPass δ S = .nx δ S := (rfl)
@[simp] theorem ev_break : dBreak δ S = .bk δ S := (rfl)
@[simp] theorem ev_cont : dCont δ S = .ct δ S := (rfl)
@[simp] theorem ev_never : dNever δ S = .bad := (rfl)
@[simp] theorem ev_raise {c : Str} : dRaise c δ S = .exc c [] δ S := (rfl)
def jDrop (δ : Sig) (_ : DV) (S : AH) : Out := .nx δ S
@[simp] theorem ev_drop : dDrop fa δ S = (fa δ S).out δ (jDrop δ) := (rfl)
@[simp] theorem ev_jDrop {d : DV} : jDrop δ d S = .nx δ S := (rfl)
def jRet (d : DV) (S : AH) : Out := .rt d S
@[simp] theorem ev_ret : dRet fa δ S = (fa δ S).out δ jRet := (rfl)
@[simp] theorem ev_jRet {d : DV} : jRet d S = .rt d S := (rfl)
@[simp] theorem ev_retN : dRetN δ S = .rt (.p .non) S := (rfl)
def jSet (i : Nat) (δ : Sig) (d : DV) (S : AH) : Out := .nx (δ.set i (some d)) S
@[simp] theorem ev_set {i : Nat} : dSet i fa δ S = (fa δ S).out δ (jSet i δ) := (rfl)
@[simp] theorem ev_jSet {i : Nat} {d : DV} : jSet i δ d S = .nx (δ.set i (some d)) S := (rfl)
@[simp] theorem ev_setF {i : Nat} : dSetF i fl δ S = (dVal fl δ S).out δ (jSet i δ) := (rfl)
@[simp] theorem ev_setC {i : Nat} : dSetC i fl δ S = (dCell fl δ S).out δ (jSet i δ) := (rfl)
def jAsg (q : Pat) (δ : Sig) (d : DV) (S : AH) : Out := match d with
  | .p x => match q.set (.p x) δ with
    | some δ' => .nx δ' S
    | none => .bad
  | .c _ => .bad
@[simp] theorem ev_asg {q : Pat} : dAsg q fa δ S = (fa δ S).out δ (jAsg q δ) := (rfl)
theorem ev_jAsg {q : Pat} {x : PV} {δ' : Sig} (h : q.set (.p x) δ = some δ') : jAsg q δ (.p x) S = .nx δ' S := by unfold jAsg; simp only [h]
def jIf (f g : Sig → AH → Out) (δ : Sig) (b : Bool) (S : AH) : Out := if b = true then f δ S else g δ S
@[simp] theorem ev_if : dIf ga f g δ S = (ga δ S).out δ (jIf f g δ) := (rfl)
@[simp] theorem ev_jIf_t : jIf f g δ true S = f δ S := (rfl)
@[simp] theorem ev_jIf_f : jIf f g δ false S = g δ S := (rfl)
def jPar (i j : Nat) (δ : Sig) (ds : List DV) (S : AH) : Out := match ds with
  | [d, e] => .nx ((δ.set i (some d)).set j (some e)) S
  | _ => .bad
@[simp] theorem ev_par {i j : Nat} : dPar i j fs δ S = (fs δ S).out δ (jPar i j δ) := (rfl)
@[simp] theorem ev_jPar {i j : Nat} {d e : DV} : jPar i j δ [d, e] S = .nx ((δ.set i (some d)).set j (some e)) S := (rfl)
def jSub3 (o v i : DV) (δ : Sig) (S : AH) : Out := match setIx o i v S with
  | some S' => .nx δ S'
  | none => .bad
def jSub2 (o v : DV) (δ : Sig) (i : DV) (S : AH) : Out := jSub3 o v i δ S
def jSub1 (fi : Sig → AH → Res DV) (v : DV) (δ : Sig) (o : DV) (S : AH) : Out := (fi δ S).out δ (jSub2 o v δ)
def jSub (fo fi : Sig → AH → Res DV) (δ : Sig) (v : DV) (S : AH) : Out := (fo δ S).out δ (jSub1 fi v δ)
@[simp] theorem ev_sub {fo fi : Sig → AH → Res DV} : dSub fa fo fi δ S = (fa δ S).out δ (jSub fo fi δ) := (rfl)
@[simp] theorem ev_jSub {fo fi : Sig → AH → Res DV} {v : DV} : jSub fo fi δ v S = (fo δ S).out δ (jSub1 fi v δ) := (rfl)
@[simp] theorem ev_jSub1 {fi : Sig → AH → Res DV} {v o : DV} : jSub1 fi v δ o S = (fi δ S).out δ (jSub2 o v δ) := (rfl)
@[simp] theorem ev_jSub2 {v o i : DV} : jSub2 o v δ i S = jSub3 o v i δ S := (rfl)
theorem ev_jSub3 {v o i : DV} {S' : AH} (h : setIx o i v S = some S') : jSub3 o v i δ S = .nx δ S' := by unfold jSub3; rw [h]
def jAug2 (i : Nat) (δ : Sig) (d : DV) (S : AH) : Out := .nx (δ.set i (some d)) S
def jAug (i : Nat) (o : Op2) (a : DV) (δ : Sig) (b : DV) (S : AH) : Out := (lift (o a b S)).out δ (jAug2 i δ)
def augOf (i : Nat) (o : Op2) (fa : Sig → AH → Res DV) (δ : Sig) (a : Option (Option DV)) (S : AH) : Out := match a with
  | some (some a) => (fa δ S).out δ (jAug i o a δ)
  | _ => .bad
@[simp] theorem ev_aug {i : Nat} {o : Op2} : dAug i o fa δ S = augOf i o fa δ δ[i]? S := by
  unfold dAug augOf
  rfl
@[simp] theorem ev_augOf {i : Nat} {o : Op2} {a : DV} : augOf i o fa δ (some (some a)) S = (fa δ S).out δ (jAug i o a δ) := (rfl)
@[simp] theorem ev_jAug {i : Nat} {o : Op2} {a b : DV} : jAug i o a δ b S = (lift (o a b S)).out δ (jAug2 i δ) := (rfl)
@[simp] theorem ev_jAug2 {i : Nat} {d : DV} : jAug2 i δ d S = .nx (δ.set i (some d)) S := (rfl)
end
/- values -/
@[simp] theorem addO_int {i j : Int} {S : AH} : addO (.p (.int i)) (.p (.int j)) S = some (.p (.int (i + j)), S) := (rfl)
@[simp] theorem subO_int {i j : Int} {S : AH} : subO (.p (.int i)) (.p (.int j)) S = some (.p (.int (i - j)), S) := (rfl)
@[simp] theorem negO_int {i : Int} {S : AH} : negO (.p (.int i)) S = some (.p (.int (-i)), S) := (rfl)
theorem mulO_int {i j : Int} {S : AH} (h : mulOk i j) : mulO (.p (.int i)) (.p (.int j)) S = some (.p (.int (i * j)), S) := by
  show (if mulOk i j then _ else _) = _
  rw [if_pos h]
theorem mulOk_r {i j : Int} (h : -(2 ^ 64) < j ∧ j < 2 ^ 64) : mulOk i j := .inl (.inr h)
theorem mulOk_l {i j : Int} (h : -(2 ^ 64) < i ∧ i < 2 ^ 64) : mulOk i j := .inl (.inl h)
theorem divO_int {i j : Int} {S : AH} (h : divOk j) : divO (.p (.int i)) (.p (.int j)) S = some (.p (.int (i / j)), S) := by
  show (if divOk j then _ else _) = _
  rw [if_pos h]
theorem divOk_of {j : Int} (h : 0 < j) (h2 : j < 2 ^ 64) : divOk j := by
  refine ⟨h, ?_⟩
  have : j.natAbs.log2 < 64 := (Nat.log2_lt (by omega)).mpr (by omega)
  omega
theorem modO_int {i j : Int} {S : AH} (h : 0 < j) : modO (.p (.int i)) (.p (.int j)) S = some (.p (.int (i % j)), S) := by
  show (if 0 < j then _ else _) = _
  rw [if_pos h]
theorem powO_int {i j : Int} {S : AH} (h : powOk i j) : powO (.p (.int i)) (.p (.int j)) S = some (.p (.int (i ^ j.toNat)), S) := by
  show (if powOk i j then _ else _) = _
  rw [if_pos h]
@[simp] theorem cmpO_int {p : Int → Int → Bool} {i j : Int} {S : AH} : cmpO p (.p (.int i)) (.p (.int j)) S = some (.p (.bl (p i j)), S) := (rfl)
@[simp] theorem b2iT : PyProof.Rows.b2i true = 1 := (rfl)
@[simp] theorem b2iF : PyProof.Rows.b2i false = 0 := (rfl)
@[simp] theorem cmpO_ib {p : Int → Int → Bool} {i : Int} {b : Bool} {S : AH} : cmpO p (.p (.int i)) (.p (.bl b)) S = some (.p (.bl (p i (PyProof.Rows.b2i b))), S) := (rfl)
@[simp] theorem cmpO_bi {p : Int → Int → Bool} {i : Int} {b : Bool} {S : AH} : cmpO p (.p (.bl b)) (.p (.int i)) S = some (.p (.bl (p (PyProof.Rows.b2i b) i)), S) := (rfl)
@[simp] theorem cmpO_bb {p : Int → Int → Bool} {b c : Bool} {S : AH} : cmpO p (.p (.bl b)) (.p (.bl c)) S = some (.p (.bl (p (PyProof.Rows.b2i b) (PyProof.Rows.b2i c))), S) := (rfl)
theorem addO_tup {xs ys : List PV} {S : AH} (h : xs.length + ys.length ≤ 16777216) : addO (.p (.tup xs)) (.p (.tup ys)) S = some (.p (.tup (xs ++ ys)), S) := by
  show (if xs.length + ys.length ≤ sizeLine then _ else _) = _
  rw [if_pos (by rw [show sizeLine = 16777216 by decide]; exact h)]
@[simp] theorem intO_int {i : Int} {S : AH} : intO [.p (.int i)] S = some (.p (.int i), S) := (rfl)
@[simp] theorem intO_bl {b : Bool} {S : AH} : intO [.p (.bl b)] S = some (.p (.int (if b then 1 else 0)), S) := (rfl)
@[simp] theorem absO_int {i : Int} {S : AH} : absO [.p (.int i)] S = some (.p (.int (if i < 0 then -i else i)), S) := (rfl)
@[simp] theorem lenO_tup {xs : List PV} {S : AH} : lenO [.p (.tup xs)] S = some (.p (.int xs.length), S) := (rfl)
@[simp] theorem lenO_lst {xs : List PV} {S : AH} : lenO [.p (.lst xs)] S = some (.p (.int xs.length), S) := (rfl)
@[simp] theorem lenO_fro {xs : List PV} {S : AH} : lenO [.p (.fro xs)] S = some (.p (.int xs.length), S) := (rfl)
theorem lenO_c {n : Nat} {xs : List PV} {S : AH} (h : S[n]? = some (.lst xs)) : lenO [.c n] S = some (.p (.int xs.length), S) := by
  unfold lenO items
  simp only [h]
@[simp] theorem minO_int {i j : Int} {S : AH} : minO [.p (.int i), .p (.int j)] S = some (.p (.int (if j < i then j else i)), S) := (rfl)
@[simp] theorem maxO_int {i j : Int} {S : AH} : maxO [.p (.int i), .p (.int j)] S = some (.p (.int (if j > i then j else i)), S) := (rfl)
@[simp] theorem tupleO_tup {xs : List PV} {S : AH} : tupleO [.p (.tup xs)] S = some (.p (.tup xs), S) := (rfl)
@[simp] theorem tupleO_lst {xs : List PV} {S : AH} : tupleO [.p (.lst xs)] S = some (.p (.tup xs), S) := (rfl)
theorem tupleO_c {n : Nat} {xs : List PV} {S : AH} (h : S[n]? = some (.lst xs)) : tupleO [.c n] S = some (.p (.tup xs), S) := by
  unfold tupleO items
  simp only [h]
theorem sumO_tup {ns : List Int} {S : AH} : sumO [.p (.tup (ns.map PV.int))] S = some (.p (.int ns.sum), S) := by
  unfold sumO items
  simp only [intsOf_map]
theorem sumO_lst {ns : List Int} {S : AH} : sumO [.p (.lst (ns.map PV.int))] S = some (.p (.int ns.sum), S) := by
  unfold sumO items
  simp only [intsOf_map]
theorem allO_lst {ns : List Bool} {S : AH} : allO [.p (.lst (ns.map PV.bl))] S = some (.p (.bl (ns.all id)), S) := by
  unfold allO litems
  simp only [blsOf_map]
theorem anyO_lst {ns : List Bool} {S : AH} : anyO [.p (.lst (ns.map PV.bl))] S = some (.p (.bl (ns.any id)), S) := by
  unfold anyO litems
  simp only [blsOf_map]
@[simp] theorem pvs_nil : pvs [] = some [] := (rfl)
@[simp] theorem pvs_cons {x : PV} {r : List DV} : pvs (.p x :: r) = (pvs r).map fun t => x :: t := (rfl)
theorem kTup_ok {ds : List DV} {ps : List PV} {S : AH} (h : pvs ds = some ps) (z : ps.length ≤ 1000) : DL.kTup ds S = .ok (.p (.tup ps)) S := by
  unfold DL.kTup
  simp only [h]
  rw [if_pos z]
@[simp] theorem kTup1 {a : PV} {S : AH} : DL.kTup [.p a] S = .ok (.p (.tup [a])) S := (rfl)
@[simp] theorem kTup0 {S : AH} : DL.kTup [] S = .ok (.p (.tup [])) S := (rfl)
@[simp] theorem kTup2 {a b : PV} {S : AH} : DL.kTup [.p a, .p b] S = .ok (.p (.tup [a, b])) S := (rfl)
@[simp] theorem kTup3 {a b c : PV} {S : AH} : DL.kTup [.p a, .p b, .p c] S = .ok (.p (.tup [a, b, c])) S := (rfl)
@[simp] theorem kTup4 {a b c d : PV} {S : AH} : DL.kTup [.p a, .p b, .p c, .p d] S = .ok (.p (.tup [a, b, c, d])) S := (rfl)
@[simp] theorem kLst0 {S : AH} : kLst [] S = .ok [] S := (rfl)
@[simp] theorem kLst1 {a : PV} {S : AH} : kLst [.p a] S = .ok [a] S := (rfl)
@[simp] theorem kLst2 {a b : PV} {S : AH} : kLst [.p a, .p b] S = .ok [a, b] S := (rfl)
@[simp] theorem kLst3 {a b c : PV} {S : AH} : kLst [.p a, .p b, .p c] S = .ok [a, b, c] S := (rfl)
@[simp] theorem kLst4 {a b c d : PV} {S : AH} : kLst [.p a, .p b, .p c, .p d] S = .ok [a, b, c, d] S := (rfl)
theorem kLst_ok {ds : List DV} {ps : List PV} {S : AH} (h : pvs ds = some ps) (z : ps.length ≤ 1000) : kLst ds S = .ok ps S := by
  unfold kLst
  simp only [h]
  rw [if_pos z]
/- defs -/
@[simp] theorem dDef_ap {N n : Nat} {keep : Bool} {body : Sig → AH → Out} {ds : List DV} {S : AH} (h : ds.length = n) : dDef N n keep body ds S = gcK S keep (body (ds.map some ++ List.replicate (N - n) none) S) := by
  unfold dDef
  rw [if_pos h]
@[simp] theorem okC_nil {n : Nat} {S : AH} : okC n [] S = True := eq_true trivial
@[simp] theorem okC_cons {n : Nat} {a b : Cell} {S S' : AH} : okC n (a :: S) (b :: S') = (okc n a b ∧ okC n S S') := (rfl)
@[simp] theorem okc_lst {n : Nat} {a : Cell} {xs : List PV} : okc n a (.lst xs) = True := eq_true trivial
@[simp] theorem okc_same {n : Nat} {a : Cell} : okc n a a = True := eq_true (okc_self n a)
@[simp] theorem okC_same {n : Nat} {S : AH} : okC n S S = True := eq_true (okC_self n S)
@[simp] theorem okC_more {n : Nat} {S J : AH} : okC n S (S ++ J) = True := eq_true (okC_app n S J)
theorem gcK_ok {S : AH} {keep : Bool} {o : Out} (h : okC S.length S o.heap) : gcK S keep o = gcR S.length keep o := by
  unfold gcK
  rw [if_pos h]
@[simp] theorem gc_nx {S0 : AH} {keep : Bool} {δ : Sig} {S : AH} (h : okC S0.length S0 S) : gcK S0 keep (.nx δ S) = .ok (.p .non) (S.take S0.length) := by rw [gcK_ok h]; rfl
@[simp] theorem gc_rt {S0 : AH} {keep : Bool} {v : PV} {S : AH} (h : okC S0.length S0 S) : gcK S0 keep (.rt (.p v) S) = .ok (.p v) (S.take S0.length) := by rw [gcK_ok h]; rfl
@[simp] theorem gc_exc {S0 : AH} {keep : Bool} {δ : Sig} {S : AH} {c : Str} {p : List (Str × PV)} (h : okC S0.length S0 S) : gcK S0 keep (.exc c p δ S) = .exc c p (S.take S0.length) := by rw [gcK_ok h]; rfl
theorem gc_cell {S0 : AH} {i : Nat} {S : AH} {xs : List PV} (ok : okC S0.length S0 S) (h : S0.length ≤ i) (e : S[i]? = some (.lst xs)) : gcK S0 true (.rt (.c i) S) = .ok (.c S0.length) (S.take S0.length ++ [.lst xs]) := by
  rw [gcK_ok ok]
  unfold gcR
  simp only [e]
  rw [if_neg (by omega)]
  rfl
theorem gc_lst {S0 : AH} {i : Nat} {S : AH} {xs : List PV} (ok : okC S0.length S0 S) (h : S0.length ≤ i) (e : S[i]? = some (.lst xs)) : gcK S0 false (.rt (.c i) S) = .ok (.p (.lst xs)) (S.take S0.length) := by
  rw [gcK_ok ok]
  unfold gcR
  simp only [e]
  rw [if_neg (by omega)]
  rfl
theorem gc_nst {S0 : AH} {i : Nat} {S : AH} {ks : List Nat} {ps : List PV} {keep : Bool} (ok : okC S0.length S0 S) (h : S0.length ≤ i) (e : S[i]? = some (.nst ks)) (f : frzCs S0.length S ks = some ps) : gcK S0 keep (.rt (.c i) S) = .ok (.p (.lst ps)) (S.take S0.length) := by
  rw [gcK_ok ok]
  unfold gcR
  simp only [e, f]
  rw [if_neg (by omega)]
theorem gc_tup {S0 : AH} {S : AH} {ds : List DV} {ps : List PV} {keep : Bool} (ok : okC S0.length S0 S) (f : frzDs S0.length S ds = some ps) : gcK S0 keep (.rtT ds S) = .ok (.p (.tup ps)) (S.take S0.length) := by
  rw [gcK_ok ok]
  unfold gcR
  simp only [f]
def jRetT (ds : List DV) (S : AH) : Out := if ds.length ≤ 1000 then .rtT ds S else .bad
@[simp] theorem ev_retT {fs : Sig → AH → Res (List DV)} {δ : Sig} {S : AH} : dRetT fs δ S = (fs δ S).out δ jRetT := (rfl)
@[simp] theorem ev_jRetT1 {a : DV} {S : AH} : jRetT [a] S = .rtT [a] S := (rfl)
@[simp] theorem ev_jRetT2 {a b : DV} {S : AH} : jRetT [a, b] S = .rtT [a, b] S := (rfl)
@[simp] theorem ev_jRetT3 {a b c : DV} {S : AH} : jRetT [a, b, c] S = .rtT [a, b, c] S := (rfl)
@[simp] theorem seq_rtT {ds : List DV} {S : AH} {g : Sig → AH → Out} : (Out.rtT ds S).seq g = .rtT ds S := (rfl)
/- loops -/
section
variable {δ : Sig} {S : AH} {fb : Sig → AH → Out} {q : Pat} {fi : Sig → AH → Res Its'} {fc : Sig → AH → Res Bool} {fe : Sig → AH → Res DV} {fs : Sig → AH → Res (List DV)} {fa : Sig → AH → Res DV}
abbrev ckT : AH → Prop := fun _ => True
noncomputable def jFor (q : Pat) (fb : Sig → AH → Out) (δ : Sig) (x : Its') (S : AH) : Out := forGo x.2 q fb x.1 δ S
@[simp] theorem ev_for : dFor fi q fb δ S = (fi δ S).out δ (jFor q fb δ) := (rfl)
@[simp] theorem ev_jFor {xs : List DV} {ck : AH → Prop} : jFor q fb δ (xs, ck) S = forGo ck q fb xs δ S := (rfl)
@[simp] theorem for_nil : forGo ckT q fb [] δ S = .nx δ S := by
  unfold forGo
  rw [if_pos trivial]
def afterTurn (o : Out) (k : Sig → AH → Out) : Out := match o with
  | .nx δ S => k δ S
  | .ct δ S => k δ S
  | .bk δ S => .nx δ S
  | o => o
@[simp] theorem after_nx {k : Sig → AH → Out} : afterTurn (.nx δ S) k = k δ S := (rfl)
@[simp] theorem after_ct {k : Sig → AH → Out} : afterTurn (.ct δ S) k = k δ S := (rfl)
@[simp] theorem after_bk {k : Sig → AH → Out} : afterTurn (.bk δ S) k = .nx δ S := (rfl)
@[simp] theorem after_rt {k : Sig → AH → Out} {d : DV} : afterTurn (.rt d S) k = .rt d S := (rfl)
@[simp] theorem after_exc {k : Sig → AH → Out} {c : Str} {p : List (Str × PV)} : afterTurn (.exc c p δ S) k = .exc c p δ S := (rfl)
@[simp] theorem after_rtT {k : Sig → AH → Out} {ds : List DV} : afterTurn (.rtT ds S) k = .rtT ds S := (rfl)
@[simp] theorem after_bad {k : Sig → AH → Out} : afterTurn .bad k = .bad := (rfl)
theorem for_cons {x : DV} {xs : List DV} {δ1 : Sig} (h : q.set x δ = some δ1) : forGo ckT q fb (x :: xs) δ S = afterTurn (fb δ1 S) (forGo ckT q fb xs) := by
  conv => lhs; unfold forGo
  rw [if_pos trivial]
  simp only [h]
  unfold afterTurn
  rfl
/-- the name of a loop -/
theorem for_nm {i : Nat} {x : DV} {xs : List DV} : forGo ckT (.nm i) fb (x :: xs) δ S = afterTurn (fb (δ.set i (some x)) S) (forGo ckT (.nm i) fb xs) := for_cons rfl
def kSeqI (d : DV) (S : AH) : Res Its' := match d with
  | .p (.tup xs) => .ok (dit xs, ckT) S
  | .p (.lst xs) => .ok (dit xs, ckT) S
  | .p (.fro xs) => .ok (dit xs, ckT) S
  | .p (.str z) => .ok (signs z, ckT) S
  | .c n => match S[n]? with
    | some (.lst xs) => .ok (dit xs, fun S' => S'[n]? = some (.lst xs)) S
    | some (.nst ks) => .ok (dic ks, fun S' => S'[n]? = some (.nst ks)) S
    | _ => .bad
  | _ => .bad
@[simp] theorem ev_seqI : dSeqI fa δ S = (fa δ S).bind kSeqI := (rfl)
@[simp] theorem ev_kSeqI_tup {xs : List PV} : kSeqI (.p (.tup xs)) S = .ok (dit xs, ckT) S := (rfl)
@[simp] theorem ev_kSeqI_lst {xs : List PV} : kSeqI (.p (.lst xs)) S = .ok (dit xs, ckT) S := (rfl)
@[simp] theorem ev_kSeqI_fro {xs : List PV} : kSeqI (.p (.fro xs)) S = .ok (dit xs, ckT) S := (rfl)
theorem ev_kSeqI_c {n : Nat} {xs : List PV} (h : S[n]? = some (.lst xs)) : kSeqI (.c n) S = .ok (dit xs, fun S' => S'[n]? = some (.lst xs)) S := by
  unfold kSeqI
  simp only [h]
theorem ev_kSeqI_n {n : Nat} {ks : List Nat} (h : S[n]? = some (.nst ks)) : kSeqI (.c n) S = .ok (dic ks, fun S' => S'[n]? = some (.nst ks)) S := by
  unfold kSeqI
  simp only [h]
def kRng1 (ds : List DV) (S : AH) : Res Its' := match ds with
  | [.p (.int j)] => if small62 j then .ok (rangeI 0 j.toNat, fun _ => True) S else .bad
  | _ => .bad
@[simp] theorem ev_rng1 : dRng1 fs δ S = (fs δ S).bind kRng1 := (rfl)
theorem kRng1_ok {j : Int} (h : small62 j) : kRng1 [.p (.int j)] S = .ok (rangeI 0 j.toNat, ckT) S := by
  show (if small62 j then _ else _) = _
  rw [if_pos h]
def kRng2 (ds : List DV) (S : AH) : Res Its' := match ds with
  | [.p (.int i), .p (.int j)] => if small62 i ∧ small62 j then .ok (rangeI i (j - i).toNat, fun _ => True) S else .bad
  | _ => .bad
@[simp] theorem ev_rng2 : dRng2 fs δ S = (fs δ S).bind kRng2 := (rfl)
theorem kRng2_ok {i j : Int} (h : small62 i) (h2 : small62 j) : kRng2 [.p (.int i), .p (.int j)] S = .ok (rangeI i (j - i).toNat, ckT) S := by
  show (if small62 i ∧ small62 j then _ else _) = _
  rw [if_pos ⟨h, h2⟩]
@[simp] theorem range0 {lo : Int} : rangeI lo 0 = [] := (rfl)
theorem range_succ {lo : Int} {n : Nat} : rangeI lo (n + 1) = .p (.int lo) :: rangeI (lo + 1) n := by
  unfold rangeI
  rw [List.range_succ_eq_map, List.map_cons, List.map_map]
  congr 1
  · simp
  · refine List.map_congr_left fun i _ => ?_
    show DV.p (PV.int (lo + ((i + 1 : Nat) : Int))) = DV.p (PV.int (lo + 1 + (i : Int)))
    congr 2
    omega
noncomputable def kLc (q : Pat) (fc : Sig → AH → Res Bool) (fe : Sig → AH → Res DV) (vs : List Nat) (δ : Sig) (x : Its') (S : AH) : Res (List PV) := if x.1.length ≤ 16777216 then lcGo x.2 q fc fe (wipeD δ vs) x.1 S else .bad
@[simp] theorem ev_lc {vs : List Nat} : dLc fi q fc fe vs δ S = (fi δ S).bind (kLc q fc fe vs δ) := (rfl)
theorem ev_kLc {vs : List Nat} {xs : List DV} {ck : AH → Prop} (h : xs.length ≤ 16777216) : kLc q fc fe vs δ (xs, ck) S = lcGo ck q fc fe (wipeD δ vs) xs S := by
  unfold kLc
  rw [if_pos h]
@[simp] theorem lc_nil {ck : AH → Prop} (h : ck S) : lcGo ck q fc fe δ [] S = .ok [] S := by
  unfold lcGo
  rw [if_pos h]
def kLcC (y : PV) (ys : List PV) (S : AH) : Res (List PV) := .ok (y :: ys) S
@[simp] theorem ev_kLcC {y : PV} {ys : List PV} : kLcC y ys S = .ok (y :: ys) S := (rfl)
/-- an item that is taken -/
theorem lc_take {ck : AH → Prop} {x : DV} {y : PV} {xs : List DV} {δ2 : Sig} {S1 S2 : AH} (h : ck S) (hq : q.set x δ = some δ2) (hc : fc δ2 S = .ok true S1) (he : fe δ2 S1 = .ok (.p y) S2) :
    lcGo ck q fc fe δ (x :: xs) S = (lcGo ck q fc fe δ xs S2).bind (kLcC y) := by
  rw [show lcGo ck q fc fe δ (x :: xs) S = _ from by unfold lcGo; rfl, if_pos h]
  simp only [hq, hc, nox_ok, Res.bind_ok, if_true, he]
  rfl
theorem lc_skip {ck : AH → Prop} {x : DV} {xs : List DV} {δ2 : Sig} {S1 : AH} (h : ck S) (hq : q.set x δ = some δ2) (hc : fc δ2 S = .ok false S1) :
    lcGo ck q fc fe δ (x :: xs) S = lcGo ck q fc fe δ xs S1 := by
  conv => lhs; unfold lcGo
  rw [if_pos h]
  simp only [hq, hc, nox_ok, Res.bind_ok, Bool.false_eq_true, if_false]
/-- a comprehension that touches nothing -/
theorem lc_map {ck : AH → Prop} {xs : List PV} (h : ck S) (g : PV → PV) (hq : ∀ x ∈ xs, ∃ δ2, q.set (.p x) δ = some δ2 ∧ fe δ2 S = .ok (.p (g x)) S) : lcGo ck q dYes fe δ (dit xs) S = .ok (xs.map g) S := by
  induction xs with
  | nil => exact lc_nil h
  | cons x xs ih =>
    obtain ⟨δ2, h1, h2⟩ := hq x List.mem_cons_self
    rw [dit_cons, lc_take h h1 rfl h2, ih fun y hy => hq y (List.mem_cons_of_mem _ hy)]
    rfl
theorem lc_filter {ck : AH → Prop} {xs : List PV} (h : ck S) (p : PV → Bool) (g : PV → PV) (hq : ∀ x ∈ xs, ∃ δ2, q.set (.p x) δ = some δ2 ∧ fc δ2 S = .ok (p x) S ∧ (p x = true → fe δ2 S = .ok (.p (g x)) S)) : lcGo ck q fc fe δ (dit xs) S = .ok ((xs.filter p).map g) S := by
  induction xs with
  | nil => exact lc_nil h
  | cons x xs ih =>
    obtain ⟨δ2, h1, h2, h3⟩ := hq x List.mem_cons_self
    have ih' := ih fun y hy => hq y (List.mem_cons_of_mem _ hy)
    cases e : p x with
    | true =>
      rw [e] at h2
      rw [dit_cons, lc_take h h1 h2 (h3 e), ih', List.filter_cons_of_pos e]
      rfl
    | false =>
      rw [e] at h2
      rw [dit_cons, lc_skip h h1 h2, ih', List.filter_cons_of_neg (by rw [e]; exact Bool.false_ne_true)]
end
end
end DL
namespace DL
noncomputable section
open PySem L2
/-- data of a depth -/
def PV.fit : Nat → PV → Prop
  | _, .non => True
  | _, .bl _ => True
  | _, .int _ => True
  | _, .str x => (PyData.str x).canLay0 = true
  | _, .glob _ => False
  | 0, _ => False
  | n + 1, .tup xs => ∀ x ∈ xs, PV.fit n x
  | n + 1, .lst xs => ∀ x ∈ xs, PV.fit n x
  | n + 1, .fro xs => ∀ x ∈ xs, PV.fit n x
theorem fits_datas {n : Nat} (ih : ∀ x : PV, x.fit n → ∃ d, x.data = some d ∧ d.canLay0 = true ∧ d.depth ≤ n) : ∀ xs : List PV, (∀ x ∈ xs, x.fit n) → ∃ ds, PV.datas xs = some ds ∧ PyData.canLayAll0 ds = true ∧ PyData.depthAll ds ≤ n
  | [], _ => ⟨[], rfl, by simp [PyData.canLayAll0], by simp [PyData.depthAll]⟩
  | x :: xs, h => by
    obtain ⟨d, h1, h2, h3⟩ := ih x (h x List.mem_cons_self)
    obtain ⟨ds, k1, k2, k3⟩ := fits_datas ih xs fun y hy => h y (List.mem_cons_of_mem _ hy)
    refine ⟨d :: ds, by simp [PV.datas, h1, k1], by simp [PyData.canLayAll0, h2, k2], ?_⟩
    simp only [PyData.depthAll]
    omega
theorem fit_data : ∀ (n : Nat) (x : PV), x.fit n → ∃ d, x.data = some d ∧ d.canLay0 = true ∧ d.depth ≤ n
  | n, .non, _ => ⟨.none, by simp [PV.data], by simp [PyData.canLay0], by simp [PyData.depth]⟩
  | n, .bl b, _ => ⟨.bool b, by simp [PV.data], by simp [PyData.canLay0], by simp [PyData.depth]⟩
  | n, .int i, _ => ⟨.int i, by simp [PV.data], by simp [PyData.canLay0], by simp [PyData.depth]⟩
  | 0, .str x, h => ⟨.str x, by simp [PV.data], h, by simp [PyData.depth]⟩
  | n + 1, .str x, h => ⟨.str x, by simp [PV.data], h, by simp [PyData.depth]⟩
  | 0, .glob _, h => h.elim
  | n + 1, .glob _, h => h.elim
  | 0, .tup _, h => h.elim
  | 0, .lst _, h => h.elim
  | 0, .fro _, h => h.elim
  | n + 1, .tup xs, h => by
    obtain ⟨ds, k1, k2, k3⟩ := fits_datas (fit_data n) xs h
    exact ⟨.tuple ds, by simp [PV.data, k1], by simp [PyData.canLay0, k2], by simp only [PyData.depth]; omega⟩
  | n + 1, .lst xs, h => by
    obtain ⟨ds, k1, k2, k3⟩ := fits_datas (fit_data n) xs h
    exact ⟨.list ds, by simp [PV.data, k1], by simp [PyData.canLay0, k2], by simp only [PyData.depth]; omega⟩
  | n + 1, .fro xs, h => by
    obtain ⟨ds, k1, k2, k3⟩ := fits_datas (fit_data n) xs h
    exact ⟨.list ds, by simp [PV.data, k1], by simp [PyData.canLay0, k2], by simp only [PyData.depth]; omega⟩
theorem fit_shaped {n : Nat} {x : PV} (h : x.fit n) (hn : n ≤ 64) : ∃ d, x.data = some d ∧ SeqAt.shaped d = true := by
  obtain ⟨d, h1, h2, h3⟩ := fit_data n x h
  refine ⟨d, h1, ?_⟩
  unfold SeqAt.shaped
  rw [h2, Bool.true_and]
  exact decide_eq_true (by omega)
theorem sh_eqv {d : PyData} (h : SeqAt.shaped d = true) : PyData.eqv d d = true := by
  unfold SeqAt.shaped at h
  exact PySem.SeqAt.eqv_refl d (Bool.and_eq_true_iff.mp h).1
theorem eqO_self {n : Nat} {x : PV} {S : AH} (h : x.fit n) (hn : n ≤ 64) : eqO (.p x) (.p x) S = some (.p (.bl true), S) := by
  obtain ⟨d, h1, h2⟩ := fit_shaped h hn
  unfold eqO dataOf
  simp only [h1, eqDat, h2, and_self, if_true, Option.map_some, sh_eqv h2]
theorem neO_self {n : Nat} {x : PV} {S : AH} (h : x.fit n) (hn : n ≤ 64) : neO (.p x) (.p x) S = some (.p (.bl false), S) := by
  obtain ⟨d, h1, h2⟩ := fit_shaped h hn
  unfold neO dataOf
  simp only [h1, eqDat, h2, and_self, if_true, Option.map_some, sh_eqv h2, Bool.not_true]
theorem eqv_int (i j : Int) : PyData.eqv (.int i) (.int j) = decide (i = j) := by
  simp only [PyData.eqv]
  cases h : decide (i = j) with
  | true => simpa using h
  | false => simpa using h
@[simp] theorem eqO_int {i j : Int} {S : AH} : eqO (.p (.int i)) (.p (.int j)) S = some (.p (.bl (decide (i = j))), S) := by
  have h1 : SeqAt.shaped (.int i) = true := rfl
  have h2 : SeqAt.shaped (.int j) = true := rfl
  unfold eqO dataOf
  simp only [PV.data, eqDat, h1, h2, and_self, if_true, Option.map_some, eqv_int]
@[simp] theorem neO_int {i j : Int} {S : AH} : neO (.p (.int i)) (.p (.int j)) S = some (.p (.bl (!decide (i = j))), S) := by
  have h1 : SeqAt.shaped (.int i) = true := rfl
  have h2 : SeqAt.shaped (.int j) = true := rfl
  unfold neO dataOf
  simp only [PV.data, eqDat, h1, h2, and_self, if_true, Option.map_some, eqv_int]
/-- a tuple of numbers -/
abbrev tupI (ns : List Int) : PV := .tup (ns.map PV.int)
abbrev lstI (ns : List Int) : PV := .lst (ns.map PV.int)
theorem fit_ints (ns : List Int) {n : Nat} : ∀ x ∈ ns.map PV.int, x.fit n := fun x h => by
  obtain ⟨i, _, rfl⟩ := List.mem_map.mp h
  cases n <;> trivial
theorem fit_tupI (ns : List Int) {n : Nat} : (tupI ns).fit (n + 1) := fit_ints ns
theorem fit_lstI (ns : List Int) {n : Nat} : (lstI ns).fit (n + 1) := fit_ints ns
@[simp] theorem isO_bl {a b : Bool} {S : AH} : isO (.p (.bl a)) (.p (.bl b)) S = some (.p (.bl (decide (a = b))), S) := rfl
@[simp] theorem isNotO_bl {a b : Bool} {S : AH} : isNotO (.p (.bl a)) (.p (.bl b)) S = some (.p (.bl (!decide (a = b))), S) := rfl
@[simp] theorem isO_non {S : AH} : isO (.p .non) (.p .non) S = some (.p (.bl true), S) := rfl
@[simp] theorem isNotO_non {S : AH} : isNotO (.p .non) (.p .non) S = some (.p (.bl false), S) := rfl
@[simp] theorem isO_tup {xs : List PV} {S : AH} : isO (.p (.tup xs)) (.p .non) S = some (.p (.bl false), S) := rfl
@[simp] theorem isNotO_tup {xs : List PV} {S : AH} : isNotO (.p (.tup xs)) (.p .non) S = some (.p (.bl true), S) := rfl
@[simp] theorem isO_int {i : Int} {S : AH} : isO (.p (.int i)) (.p .non) S = some (.p (.bl false), S) := rfl
@[simp] theorem isNotO_int {i : Int} {S : AH} : isNotO (.p (.int i)) (.p .non) S = some (.p (.bl true), S) := rfl
/- kinds -/
@[simp] theorem kIsi_int {i : Int} {T : String} {S : AH} : kIsi T (.p (.int i)) S = .ok (.p (.bl (isTy "int" T))) S := rfl
@[simp] theorem kIsi_bl {b : Bool} {T : String} {S : AH} : kIsi T (.p (.bl b)) S = .ok (.p (.bl (isTy "bool" T))) S := rfl
@[simp] theorem kIsi_str {x : Str} {T : String} {S : AH} : kIsi T (.p (.str x)) S = .ok (.p (.bl (isTy "str" T))) S := rfl
@[simp] theorem kIsi_tup {xs : List PV} {T : String} {S : AH} : kIsi T (.p (.tup xs)) S = .ok (.p (.bl (isTy "tuple" T))) S := rfl
@[simp] theorem kIsi_lst {xs : List PV} {T : String} {S : AH} : kIsi T (.p (.lst xs)) S = .ok (.p (.bl (isTy "list" T))) S := rfl
@[simp] theorem kIsi_non {T : String} {S : AH} : kIsi T (.p .non) S = .ok (.p (.bl (isTy "NoneType" T))) S := rfl
@[simp] theorem kIsiT_int {i : Int} {T : List String} {S : AH} : kIsiT T (.p (.int i)) S = .ok (.p (.bl (T.any fun U => isTy "int" U))) S := rfl
@[simp] theorem kIsiT_bl {b : Bool} {T : List String} {S : AH} : kIsiT T (.p (.bl b)) S = .ok (.p (.bl (T.any fun U => isTy "bool" U))) S := rfl
@[simp] theorem kIsiT_str {x : Str} {T : List String} {S : AH} : kIsiT T (.p (.str x)) S = .ok (.p (.bl (T.any fun U => isTy "str" U))) S := rfl
@[simp] theorem kIsiT_tup {xs : List PV} {T : List String} {S : AH} : kIsiT T (.p (.tup xs)) S = .ok (.p (.bl (T.any fun U => isTy "tuple" U))) S := rfl
@[simp] theorem kIsiT_lst {xs : List PV} {T : List String} {S : AH} : kIsiT T (.p (.lst xs)) S = .ok (.p (.bl (T.any fun U => isTy "list" U))) S := rfl
@[simp] theorem kIsiT_non {T : List String} {S : AH} : kIsiT T (.p .non) S = .ok (.p (.bl (T.any fun U => isTy "NoneType" U))) S := rfl
@[simp] theorem ty_ii : isTy "int" "int" = true := by decide
@[simp] theorem ty_ib : isTy "int" "bool" = false := by decide
@[simp] theorem ty_is : isTy "int" "str" = false := by decide
@[simp] theorem ty_it : isTy "int" "tuple" = false := by decide
@[simp] theorem ty_il : isTy "int" "list" = false := by decide
@[simp] theorem ty_bi : isTy "bool" "int" = true := by decide
@[simp] theorem ty_bb : isTy "bool" "bool" = true := by decide
@[simp] theorem ty_bs : isTy "bool" "str" = false := by decide
@[simp] theorem ty_bt : isTy "bool" "tuple" = false := by decide
@[simp] theorem ty_bl : isTy "bool" "list" = false := by decide
@[simp] theorem ty_si : isTy "str" "int" = false := by decide
@[simp] theorem ty_sb : isTy "str" "bool" = false := by decide
@[simp] theorem ty_ss : isTy "str" "str" = true := by decide
@[simp] theorem ty_st : isTy "str" "tuple" = false := by decide
@[simp] theorem ty_sl : isTy "str" "list" = false := by decide
@[simp] theorem ty_ti : isTy "tuple" "int" = false := by decide
@[simp] theorem ty_tb : isTy "tuple" "bool" = false := by decide
@[simp] theorem ty_ts : isTy "tuple" "str" = false := by decide
@[simp] theorem ty_tt : isTy "tuple" "tuple" = true := by decide
@[simp] theorem ty_tl : isTy "tuple" "list" = false := by decide
@[simp] theorem ty_li : isTy "list" "int" = false := by decide
@[simp] theorem ty_lb : isTy "list" "bool" = false := by decide
@[simp] theorem ty_ls : isTy "list" "str" = false := by decide
@[simp] theorem ty_lt : isTy "list" "tuple" = false := by decide
@[simp] theorem ty_ll : isTy "list" "list" = true := by decide
@[simp] theorem ty_ni : isTy "NoneType" "int" = false := by decide
@[simp] theorem ty_nb : isTy "NoneType" "bool" = false := by decide
@[simp] theorem ty_ns : isTy "NoneType" "str" = false := by decide
@[simp] theorem ty_nt : isTy "NoneType" "tuple" = false := by decide
@[simp] theorem ty_nl : isTy "NoneType" "list" = false := by decide
/- items -/
theorem ixO_c {n : Nat} {i : Int} {xs : List PV} {x : PV} {S : AH} (h : S[n]? = some (.lst xs)) (e : atI xs i = some x) : ixO (.c n) (.p (.int i)) S = some (.p x, S) := by
  unfold ixO items
  simp only [h, e, Option.map_some]
theorem ixO_tup {i : Int} {xs : List PV} {x : PV} {S : AH} (e : atI xs i = some x) : ixO (.p (.tup xs)) (.p (.int i)) S = some (.p x, S) := by
  show (match items (.p (.tup xs)) S with | some xs => (atI xs i).map fun x => (DV.p x, S) | none => none) = _
  simp only [items, e, Option.map_some]
theorem ixO_lst {i : Int} {xs : List PV} {x : PV} {S : AH} (e : atI xs i = some x) : ixO (.p (.lst xs)) (.p (.int i)) S = some (.p x, S) := by
  show (match items (.p (.lst xs)) S with | some xs => (atI xs i).map fun x => (DV.p x, S) | none => none) = _
  simp only [items, e, Option.map_some]
theorem atI_map {α β : Type} (f : α → β) {xs : List α} {i : Int} {x : α} (h : atI xs i = some x) : atI (xs.map f) i = some (f x) := by
  unfold atI at h ⊢
  rw [List.length_map]
  cases e : ixN xs.length i with
  | none => rw [e] at h; cases h
  | some j =>
    rw [e] at h
    simp only [Option.bind_some] at h ⊢
    rw [List.getElem?_map, h]; rfl
/-- an index from 0 on -/
theorem atI_at {α : Type} {xs : List α} {i : Int} {x : α} (h0 : 0 ≤ i) (h : xs[i.toNat]? = some x) : atI xs i = some x := by
  have := atI_nat h
  rwa [Int.toNat_of_nonneg h0] at this
theorem atI_lt {xs : List Int} {i : Int} (h0 : 0 ≤ i) (h : i < xs.length) : ∃ x, atI xs i = some x ∧ xs[i.toNat]? = some x ∧ x ∈ xs := by
  have hi : i.toNat < xs.length := by omega
  exact ⟨xs[i.toNat], atI_at h0 (List.getElem?_eq_getElem hi), List.getElem?_eq_getElem hi, List.getElem_mem hi⟩
/- cells at the end -/
@[simp] theorem last_get {S : AH} {c : Cell} : (S ++ [c])[S.length]? = some c := by simp
@[simp] theorem last_set {S : AH} {c d : Cell} : (S ++ [c]).set S.length d = S ++ [d] := by
  rw [List.set_append_right _ _ (Nat.le_refl _), Nat.sub_self]; rfl
@[simp] theorem last_take {S : AH} {c : Cell} : (S ++ [c]).take S.length = S := by simp
theorem append_c {n : Nat} {xs : List PV} {x : PV} {S : AH} (h : S[n]? = some (.lst xs)) (z : xs.length < 16777216) : appendM (.c n) [.p x] S = some (.p .non, S.set n (.lst (xs ++ [x]))) := by
  unfold appendM
  simp only [h]
  rw [if_pos z]
theorem litems_c {n : Nat} {xs : List PV} {S : AH} (h : S[n]? = some (.lst xs)) : litems (.c n) S = some xs := by
  unfold litems
  simp only [h]
@[simp] theorem litems_lst {xs : List PV} {S : AH} : litems (.p (.lst xs)) S = some xs := rfl
/-- append to the last cell -/
theorem ev_append {fs : Sig → AH → Res (List DV)} {δ : Sig} {S S' : AH} {n : Nat} {xs : List PV} {x : PV} (h : S[n]? = some (.lst xs)) (e : fs δ S = .ok [.p x] S') (h' : S'[n]? = some (.lst xs)) (z : xs.length < 16777216) :
    kMeth appendM fs δ (.c n) S = .ok (.p .non) (S'.set n (.lst (xs ++ [x]))) := by
  rw [ev_kMeth (litems_c h), e]
  simp only [Res.bind_ok, ev_kMeth2]
  rw [append_c h' z, lift_some]
theorem cutL_map {α β : Type} (f : α → β) (xs : List α) (lo hi : Option Int) : cutL (xs.map f) lo hi = (cutL xs lo hi).map f := by
  unfold cutL
  rw [List.length_map, List.map_take, List.map_drop]
end
end DL
namespace DL
noncomputable section
open PySem L2
section
variable {δ : Sig} {S : AH} {fb : Sig → AH → Out} {q : Pat} {fc : Sig → AH → Res Bool} {fe : Sig → AH → Res DV} {fs : Sig → AH → Res (List DV)}
/-- an invariant of a for loop -/
theorem for_rule (P : List DV → Sig → AH → Prop) {xs : List DV} (h0 : P xs δ S) (step : ∀ x xs δ S, P (x :: xs) δ S → ∃ δ1, q.set x δ = some δ1 ∧ ∃ δ2 S2, fb δ1 S = .nx δ2 S2 ∧ P xs δ2 S2) : ∃ δ' S', forGo ckT q fb xs δ S = .nx δ' S' ∧ P [] δ' S' := by
  induction xs generalizing δ S with
  | nil => exact ⟨δ, S, for_nil, h0⟩
  | cons x xs ih =>
    obtain ⟨δ1, h1, δ2, S2, h2, h3⟩ := step x xs δ S h0
    obtain ⟨δ', S', h4, h5⟩ := ih h3
    exact ⟨δ', S', by rw [for_cons h1, h2, after_nx, h4], h5⟩
theorem rangeI_eq (lo : Int) (n : Nat) : rangeI lo n = (List.range n).map fun (i : Nat) => DV.p (.int (lo + (i : Int))) := rfl
@[simp] theorem rangeI_len (lo : Int) (n : Nat) : (rangeI lo n).length = n := by rw [rangeI_eq]; simp
theorem lc_rmap {i : Nat} {lo : Int} {n : Nat} (g : Nat → PV) (h : ∀ k < n, fe (δ.set i (some (.p (.int (lo + (k : Int)))))) S = .ok (.p (g k)) S) : lcGo ckT (.nm i) dYes fe δ (rangeI lo n) S = .ok ((List.range n).map g) S := by
  induction n generalizing lo g with
  | zero => exact lc_nil trivial
  | succ n ih =>
    rw [range_succ, lc_take trivial rfl rfl (h 0 (by omega) |> fun k => by simpa using k)]
    rw [ih (fun k => g (k + 1)) fun k hk => by
      have := h (k + 1) (by omega)
      rwa [show lo + ((k + 1 : Nat) : Int) = lo + 1 + (k : Int) by omega] at this]
    rw [Res.bind_ok, ev_kLcC, List.range_succ_eq_map, List.map_cons, List.map_map]
    rfl
theorem lc_rfilter {i : Nat} {lo : Int} {n : Nat} (p : Nat → Bool) (g : Nat → PV) (hc : ∀ k < n, fc (δ.set i (some (.p (.int (lo + (k : Int)))))) S = .ok (p k) S) (h : ∀ k < n, p k = true → fe (δ.set i (some (.p (.int (lo + (k : Int)))))) S = .ok (.p (g k)) S) : lcGo ckT (.nm i) fc fe δ (rangeI lo n) S = .ok (((List.range n).filter p).map g) S := by
  induction n generalizing lo g p with
  | zero => exact lc_nil trivial
  | succ n ih =>
    have ih' := ih (lo := lo + 1) (fun k => p (k + 1)) (fun k => g (k + 1)) (fun k hk => by
      have := hc (k + 1) (by omega)
      rwa [show lo + ((k + 1 : Nat) : Int) = lo + 1 + (k : Int) by omega] at this) (fun k hk e => by
      have := h (k + 1) (by omega) e
      rwa [show lo + ((k + 1 : Nat) : Int) = lo + 1 + (k : Int) by omega] at this)
    have c0 : fc (δ.set i (some (.p (.int lo)))) S = .ok (p 0) S := by simpa using hc 0 (by omega)
    have e2 : ((List.range (n + 1)).filter p).map g = (if p 0 = true then [g 0] else []) ++ ((List.range n).filter fun k => p (k + 1)).map (fun k => g (k + 1)) := by
      rw [List.range_succ_eq_map, List.filter_cons]
      have : ((List.range n).map Nat.succ).filter p = ((List.range n).filter fun k => p (k + 1)).map Nat.succ := by
        rw [List.filter_map]; rfl
      split <;> rename_i hp
      · rw [this]
        simp [List.map_map, Function.comp_def]
      · rw [this]
        simp [List.map_map, Function.comp_def]
    rw [range_succ, e2]
    cases e : p 0 with
    | true =>
      rw [e] at c0
      have h0 : fe (δ.set i (some (.p (.int lo)))) S = .ok (.p (g 0)) S := by simpa using h 0 (by omega) e
      rw [lc_take trivial rfl c0 h0, ih', Res.bind_ok, ev_kLcC]
      rfl
    | false =>
      rw [e] at c0
      rw [lc_skip trivial rfl c0, ih']
      rfl
theorem range_one {n k0 : Nat} {p : Nat → Bool} (h : k0 < n) (hp : ∀ k < n, p k = true ↔ k = k0) : (List.range n).filter p = [k0] := by
  have e : (List.range n).filter p = (List.range n).filter (fun k => k == k0) := List.filter_congr fun k hk => by
    have := hp k (List.mem_range.mp hk)
    cases e : p k with
    | true => rw [e] at this; simp [this.mp rfl]
    | false =>
      rw [e] at this
      have : ¬ k = k0 := fun c => Bool.false_ne_true (this.mpr c)
      simp [this]
  rw [e]
  clear e hp
  induction n with
  | zero => omega
  | succ n ih =>
    rw [List.range_succ, List.filter_append]
    by_cases z : k0 = n
    · subst z
      have : (List.range k0).filter (fun k => k == k0) = [] := List.filter_eq_nil_iff.mpr fun k hk => by
        have := List.mem_range.mp hk
        simp; omega
      rw [this]; simp
    · rw [ih (by omega)]
      have : ¬ n = k0 := fun c => z c.symm
      simp [this]
theorem kMeth_c {o : OpM} {n : Nat} {xs : List PV} (h : S[n]? = some (.lst xs)) : kMeth o fs δ (.c n) S = (fs δ S).bind (kMeth2 o (.c n)) := ev_kMeth (litems_c h)
@[simp] theorem kMeth_last {o : OpM} {xs : List PV} : kMeth o fs δ (.c S.length) (S ++ [.lst xs]) = (fs δ (S ++ [.lst xs])).bind (kMeth2 o (.c S.length)) := kMeth_c last_get
theorem append_last {xs : List PV} {x : PV} (z : xs.length < 16777216) : appendM (.c S.length) [.p x] (S ++ [.lst xs]) = some (.p .non, S ++ [.lst (xs ++ [x])]) := by
  rw [append_c last_get z, last_set]
theorem setIx_c {n k : Nat} {xs : List PV} {x : PV} (h : S[n]? = some (.lst xs)) (hk : k < xs.length) : setIx (.c n) (.p (.int (k : Int))) (.p x) S = some (S.set n (.lst (xs.set k x))) := by
  have e : ixN xs.length (k : Int) = some k := by
    unfold ixN
    rw [if_pos (by omega), if_pos (by omega), Int.toNat_natCast]
  unfold setIx
  simp only [h, e, Option.map_some]
theorem tupleO_last {xs : List PV} : tupleO [.c S.length] (S ++ [.lst xs]) = some (.p (.tup xs), S ++ [.lst xs]) := tupleO_c last_get
@[simp] theorem gc_last {xs : List PV} {d : PV} {keep : Bool} : gcK S keep (.rt (.p d) (S ++ [.lst xs])) = .ok (.p d) S := by
  rw [gc_rt (okC_app _ _ _), last_take]
end
@[simp] theorem kLst5 {x0 x1 x2 x3 x4 : PV} {S : AH} : kLst [.p x0, .p x1, .p x2, .p x3, .p x4] S = .ok [x0, x1, x2, x3, x4] S := (rfl)
@[simp] theorem kLst6 {x0 x1 x2 x3 x4 x5 : PV} {S : AH} : kLst [.p x0, .p x1, .p x2, .p x3, .p x4, .p x5] S = .ok [x0, x1, x2, x3, x4, x5] S := (rfl)
@[simp] theorem kLst7 {x0 x1 x2 x3 x4 x5 x6 : PV} {S : AH} : kLst [.p x0, .p x1, .p x2, .p x3, .p x4, .p x5, .p x6] S = .ok [x0, x1, x2, x3, x4, x5, x6] S := (rfl)
@[simp] theorem kLst8 {x0 x1 x2 x3 x4 x5 x6 x7 : PV} {S : AH} : kLst [.p x0, .p x1, .p x2, .p x3, .p x4, .p x5, .p x6, .p x7] S = .ok [x0, x1, x2, x3, x4, x5, x6, x7] S := (rfl)
@[simp] theorem kLst9 {x0 x1 x2 x3 x4 x5 x6 x7 x8 : PV} {S : AH} : kLst [.p x0, .p x1, .p x2, .p x3, .p x4, .p x5, .p x6, .p x7, .p x8] S = .ok [x0, x1, x2, x3, x4, x5, x6, x7, x8] S := (rfl)
@[simp] theorem kLst10 {x0 x1 x2 x3 x4 x5 x6 x7 x8 x9 : PV} {S : AH} : kLst [.p x0, .p x1, .p x2, .p x3, .p x4, .p x5, .p x6, .p x7, .p x8, .p x9] S = .ok [x0, x1, x2, x3, x4, x5, x6, x7, x8, x9] S := (rfl)
@[simp] theorem kLst11 {x0 x1 x2 x3 x4 x5 x6 x7 x8 x9 x10 : PV} {S : AH} : kLst [.p x0, .p x1, .p x2, .p x3, .p x4, .p x5, .p x6, .p x7, .p x8, .p x9, .p x10] S = .ok [x0, x1, x2, x3, x4, x5, x6, x7, x8, x9, x10] S := (rfl)
@[simp] theorem kLst12 {x0 x1 x2 x3 x4 x5 x6 x7 x8 x9 x10 x11 : PV} {S : AH} : kLst [.p x0, .p x1, .p x2, .p x3, .p x4, .p x5, .p x6, .p x7, .p x8, .p x9, .p x10, .p x11] S = .ok [x0, x1, x2, x3, x4, x5, x6, x7, x8, x9, x10, x11] S := (rfl)
@[simp] theorem kLst13 {x0 x1 x2 x3 x4 x5 x6 x7 x8 x9 x10 x11 x12 : PV} {S : AH} : kLst [.p x0, .p x1, .p x2, .p x3, .p x4, .p x5, .p x6, .p x7, .p x8, .p x9, .p x10, .p x11, .p x12] S = .ok [x0, x1, x2, x3, x4, x5, x6, x7, x8, x9, x10, x11, x12] S := (rfl)
@[simp] theorem kTup5 {x0 x1 x2 x3 x4 : PV} {S : AH} : DL.kTup [.p x0, .p x1, .p x2, .p x3, .p x4] S = .ok (.p (.tup [x0, x1, x2, x3, x4])) S := (rfl)
@[simp] theorem kTup6 {x0 x1 x2 x3 x4 x5 : PV} {S : AH} : DL.kTup [.p x0, .p x1, .p x2, .p x3, .p x4, .p x5] S = .ok (.p (.tup [x0, x1, x2, x3, x4, x5])) S := (rfl)
@[simp] theorem kTup7 {x0 x1 x2 x3 x4 x5 x6 : PV} {S : AH} : DL.kTup [.p x0, .p x1, .p x2, .p x3, .p x4, .p x5, .p x6] S = .ok (.p (.tup [x0, x1, x2, x3, x4, x5, x6])) S := (rfl)
theorem listF_tup {xs : List PV} {S : AH} : listF [.p (.tup xs)] S = some xs := (rfl)
theorem addO_lst {xs ys : List PV} {S : AH} (h : xs.length + ys.length ≤ 16777216) : addO (.p (.lst xs)) (.p (.lst ys)) S = some (.p (.lst (xs ++ ys)), S) := by
  show (if xs.length + ys.length ≤ sizeLine then _ else _) = _
  rw [if_pos (by rw [show sizeLine = 16777216 by decide]; exact h)]
theorem mulO_tup {xs : List PV} {k : Int} {S : AH} (h : xs ≠ [] ∧ 2 ≤ k ∧ k ≤ 1000 ∧ xs.length ≤ 1000) : mulO (.p (.tup xs)) (.p (.int k)) S = some (.p (.tup (List.replicate k.toNat xs).flatten), S) := by
  show (if xs ≠ [] ∧ 2 ≤ k ∧ k ≤ 1000 ∧ xs.length ≤ 1000 then _ else _) = _
  rw [if_pos h]
/- try -/
def tryOf (sub : Str → Option Bool) (fs : Sig → AH → Out) (o : Out) : Out := match o with
  | .exc c p δ' S' => match sub c with
    | some true => (fs δ' S').nox
    | some false => .exc c p δ' S'
    | none => .bad
  | o => o
@[simp] theorem ev_try {sub : Str → Option Bool} {fb fs : Sig → AH → Out} {δ : Sig} {S : AH} : dTry sub fb fs δ S = tryOf sub fs (fb δ S) := by
  unfold dTry tryOf
  rfl
@[simp] theorem try_nx {sub : Str → Option Bool} {fs : Sig → AH → Out} {δ : Sig} {S : AH} : tryOf sub fs (.nx δ S) = .nx δ S := (rfl)
@[simp] theorem try_rt {sub : Str → Option Bool} {fs : Sig → AH → Out} {d : DV} {S : AH} : tryOf sub fs (.rt d S) = .rt d S := (rfl)
theorem try_exc {sub : Str → Option Bool} {fs : Sig → AH → Out} {c : Str} {p : List (Str × PV)} {δ : Sig} {S : AH} (h : sub c = some true) : tryOf sub fs (.exc c p δ S) = (fs δ S).nox := by
  unfold tryOf
  simp only [h]
@[simp] theorem onox_nx {δ : Sig} {S : AH} : (Out.nx δ S).nox = .nx δ S := (rfl)
@[simp] theorem onox_rt {d : DV} {S : AH} : (Out.rt d S).nox = .rt d S := (rfl)
theorem sorted_tup {ns : List Int} {S : AH} : sortedF [.p (.tup (ns.map PV.int))] S = some ((sortI ns).map PV.int) := by
  unfold sortedF
  simp only [intsOf_map]
theorem kAppF_some {o : OpF} {ds : List DV} {ps : List PV} {S : AH} (h : o ds S = some ps) : kAppF o ds S = .ok ps S := by
  unfold kAppF
  simp only [h]
/- two cells at the end -/
section
variable {R : AH} {A B : Cell} {δ : Sig} {fs : Sig → AH → Res (List DV)}
@[simp] theorem two_get0 : (R ++ [A, B])[R.length]? = some A := by simp
@[simp] theorem two_get1 : (R ++ [A, B])[R.length + 1]? = some B := by
  rw [List.getElem?_append_right (by omega), Nat.add_sub_cancel_left]; rfl
@[simp] theorem two_set0 {C : Cell} : (R ++ [A, B]).set R.length C = R ++ [C, B] := by
  rw [List.set_append_right _ _ (Nat.le_refl _), Nat.sub_self]; rfl
@[simp] theorem two_set1 {C : Cell} : (R ++ [A, B]).set (R.length + 1) C = R ++ [A, C] := by
  rw [List.set_append_right _ _ (by omega), Nat.add_sub_cancel_left]; rfl
@[simp] theorem two_take : (R ++ [A, B]).take R.length = R := by simp
@[simp] theorem kMeth_two0 {o : OpM} {xs : List PV} : kMeth o fs δ (.c R.length) (R ++ [.lst xs, B]) = (fs δ (R ++ [.lst xs, B])).bind (kMeth2 o (.c R.length)) := kMeth_c two_get0
@[simp] theorem kMeth_two1 {o : OpM} {xs : List PV} : kMeth o fs δ (.c (R.length + 1)) (R ++ [A, .lst xs]) = (fs δ (R ++ [A, .lst xs])).bind (kMeth2 o (.c (R.length + 1))) := kMeth_c two_get1
@[simp] theorem kMeth0_two0 {o : OpM} {xs : List PV} : kMeth0 o (.c R.length) (R ++ [.lst xs, B]) = lift (o (.c R.length) [] (R ++ [.lst xs, B])) := ev_kMeth0 (litems_c two_get0)
@[simp] theorem kMeth0_two1 {o : OpM} {xs : List PV} : kMeth0 o (.c (R.length + 1)) (R ++ [A, .lst xs]) = lift (o (.c (R.length + 1)) [] (R ++ [A, .lst xs])) := ev_kMeth0 (litems_c two_get1)
theorem append_two0 {xs : List PV} {x : PV} (z : xs.length < 16777216) : appendM (.c R.length) [.p x] (R ++ [.lst xs, B]) = some (.p .non, R ++ [.lst (xs ++ [x]), B]) := by
  rw [append_c two_get0 z, two_set0]
theorem append_two1 {xs : List PV} {x : PV} (z : xs.length < 16777216) : appendM (.c (R.length + 1)) [.p x] (R ++ [A, .lst xs]) = some (.p .non, R ++ [A, .lst (xs ++ [x])]) := by
  rw [append_c two_get1 z, two_set1]
theorem pop_c {n : Nat} {xs : List PV} {y : PV} {S : AH} (h : S[n]? = some (.lst (xs ++ [y]))) : popM (.c n) [] S = some (.p y, S.set n (.lst xs)) := by
  unfold popM
  simp [h]
@[simp] theorem pop_two0 {xs : List PV} {y : PV} : popM (.c R.length) [] (R ++ [.lst (xs ++ [y]), B]) = some (.p y, R ++ [.lst xs, B]) := by
  rw [pop_c two_get0, two_set0]
@[simp] theorem pop_two1 {xs : List PV} {y : PV} : popM (.c (R.length + 1)) [] (R ++ [A, .lst (xs ++ [y])]) = some (.p y, R ++ [A, .lst xs]) := by
  rw [pop_c two_get1, two_set1]
@[simp] theorem len_two0 {xs : List PV} : lenO [.c R.length] (R ++ [.lst xs, B]) = some (.p (.int xs.length), R ++ [.lst xs, B]) := lenO_c two_get0
@[simp] theorem len_two1 {xs : List PV} : lenO [.c (R.length + 1)] (R ++ [A, .lst xs]) = some (.p (.int xs.length), R ++ [A, .lst xs]) := lenO_c two_get1
@[simp] theorem tuple_two0 {xs : List PV} : tupleO [.c R.length] (R ++ [.lst xs, B]) = some (.p (.tup xs), R ++ [.lst xs, B]) := tupleO_c two_get0
@[simp] theorem tuple_two1 {xs : List PV} : tupleO [.c (R.length + 1)] (R ++ [A, .lst xs]) = some (.p (.tup xs), R ++ [A, .lst xs]) := tupleO_c two_get1
end
@[simp] theorem slO_tup {xs : List PV} {lo hi : Option Int} {S : AH} : slO (.p (.tup xs)) lo hi S = some (.p (.tup (cutL xs lo hi)), S) := rfl
@[simp] theorem slO_fro {xs : List PV} {lo hi : Option Int} {S : AH} : slO (.p (.fro xs)) lo hi S = some (.p (.lst (cutL xs lo hi)), S) := rfl
@[simp] theorem slO_lst {xs : List PV} {lo hi : Option Int} {S : AH} : slO (.p (.lst xs)) lo hi S = some (.p (.lst (cutL xs lo hi)), S) := rfl
@[simp] theorem revO_tup {xs : List PV} {S : AH} : revO (.p (.tup xs)) S = some (.p (.tup xs.reverse), S) := rfl
theorem cut_from0 {α : Type} {xs : List α} {k : Nat} (h : k ≤ xs.length) : cutL xs (some (k : Int)) none = xs.drop k := by
  unfold cutL
  have e1 : HT.sIx xs.length 0 (some (k : Int)) = k := by
    rw [HT.sIx_nat]; omega
  have e2 : HT.sIx xs.length xs.length none = xs.length := rfl
  rw [e1, e2]
  exact List.take_of_length_le (by rw [List.length_drop]; omega)
theorem cut_to0 {α : Type} {xs : List α} {k : Nat} (h : k ≤ xs.length) : cutL xs none (some (k : Int)) = xs.take k := by
  unfold cutL
  have e1 : HT.sIx xs.length xs.length (some (k : Int)) = k := by
    rw [HT.sIx_nat]; omega
  have e2 : HT.sIx xs.length 0 none = 0 := rfl
  rw [e1, e2]
  rfl
theorem cut_from {α : Type} {xs : List α} {k : Nat} (h : True := trivial) : cutL xs (some (k : Int)) none = xs.drop k := by
  by_cases z : k ≤ xs.length
  · exact cut_from0 z
  · unfold cutL
    have e1 : HT.sIx xs.length 0 (some (k : Int)) = xs.length := by
      rw [HT.sIx_nat]; omega
    rw [e1, List.drop_length, List.drop_of_length_le (by omega)]
    simp
theorem cut_to {α : Type} {xs : List α} {k : Nat} (h : True := trivial) : cutL xs none (some (k : Int)) = xs.take k := by
  by_cases z : k ≤ xs.length
  · exact cut_to0 z
  · unfold cutL
    have e1 : HT.sIx xs.length xs.length (some (k : Int)) = xs.length := by
      rw [HT.sIx_nat]; omega
    have e2 : HT.sIx xs.length 0 none = 0 := rfl
    rw [e1, e2, List.take_of_length_le (by simp), List.take_of_length_le (by omega)]
    rfl
theorem small62_of {i : Int} (h : -(2 ^ 62) < i ∧ i < 2 ^ 62) : small62 i := by
  unfold small62
  omega
end
end DL
namespace DL
noncomputable section
open PySem PySem.Spec PyProof.Rows L2
/-! ### nests: lists whose items are cells -/
def WK (M : Wd) (E : XK) (as : As) (H : Hp) (r : Res (List Nat)) (Q : VK) : Prop := match r with
  | .ok ks S' => ∀ as' H' p vs, Ext as H as' H' → SR M as' H' S' → vs.length ≤ sizeLine → KRs as' vs ks → H' p = none → Q (.ref p) (upd H' p (.lst vs))
  | .exc c p S' => ∀ as' H' cls dd, Ext as H as' H' → SR M as' H' S' → ExR M as' H' c p cls dd → E cls dd H'
  | .bad => False
def dNest (f : Sig → AH → Res (List Nat)) : Sig → AH → Res DV := fun δ S => (f δ S).bind fun ks S => .ok (.c S.length) (S ++ [.nst ks])
section
variable {M : Wd} {E0 E1 : XK} {as as' : As} {H H' : Hp} {α β : Type} {R : As → Hp → β → α → Prop}
theorem WK.later {r : Res (List Nat)} {Q : VK} (x : Ext as H as' H') (w : WK M E0 as H r Q) : WK M E0 as' H' r Q := by
  cases r with
  | ok a S => exact fun as2 H2 p vs e => w as2 H2 p vs (x.trans e)
  | exc c p S => exact fun as2 H2 cls dd e => w as2 H2 cls dd (x.trans e)
  | bad => exact w
theorem WK.bind {r : Res α} {k : α → AH → Res (List Nat)} {Q : VK} (w : WK M E0 as H (r.bind k) Q) :
    WR M E0 R as H r (fun b H1 => ∃ as1 S1 a, r = .ok a S1 ∧ Ext as H as1 H1 ∧ SR M as1 H1 S1 ∧ R as1 H1 b a ∧ WK M E0 as1 H1 (k a S1) Q) := by
  cases r with
  | ok a S => exact fun as2 H2 b e s q => ⟨as2, S, a, rfl, e, s, q, WK.later e w⟩
  | exc c p S => exact w
  | bad => exact w
theorem WK.here {S : AH} {ks : List Nat} {Q : VK} {p : Addr} {vs : List V} (w : WK M E0 as H (.ok ks S) Q) (s : SR M as H S) (z : vs.length ≤ sizeLine) (r : KRs as vs ks) (n : H p = none) : Q (.ref p) (upd H p (.lst vs)) := w as H p vs (Ext.refl _ _) s z r n
theorem WK.nest {r : Res (List Nat)} {Q : VK} (w : WR M E0 (DVR M) as H (r.bind fun ks S => .ok (.c S.length) (S ++ [.nst ks])) Q) : WK M E0 as H r Q := by
  cases r with
  | ok ks S => exact fun as2 H2 p vs e s z t n => w (as2.add p) _ _ (e.trans (ext_cell s n)) (s.newNest n z t) ⟨p, by rw [← s.len]; simp [As.add], rfl⟩
  | exc c p S => exact w
  | bad => exact w
end
def tK (M : Wd) (E : L2.St → XK) (f : Sig → AH → Res (List Nat)) : TE := fun σ H Q => ∃ as δ S, SR M as H S ∧ ER M as H σ δ ∧ WK M (E σ) as H (f δ S) Q
/-- a new list whose items are cells -/
abbrev FK (X : Cx) (E : L2.St → XK) (e : Expr) (f : Sig → AH → Res (List Nat)) : Prop := PE X e (tK (wd X) E f)
theorem de_nest {X : Cx} {E : L2.St → XK} {e : Expr} {f : Sig → AH → Res (List Nat)} (h : FK X E e f) : DE X E e (dNest f) := h.imp fun σ H Q ⟨as, δ, S, sr, er, w⟩ => ⟨as, δ, S, sr, er, WK.nest w⟩
def cells : List DV → Option (List Nat)
  | [] => some []
  | .c k :: r => (cells r).map fun t => k :: t
  | .p _ :: _ => none
theorem cells_ok {M : Wd} {as : As} {H : Hp} : ∀ {ds : List DV} {vs : List V} {ks : List Nat}, DVRs M as H vs ds → cells ds = some ks → KRs as vs ks
  | [], _, _, .nil, e => by cases e; exact .nil
  | .c k :: r, _, _, .cons h t, e => by
    simp only [cells, Option.map_eq_some_iff] at e
    obtain ⟨qs, e1, rfl⟩ := e
    exact .cons h (cells_ok t e1)
  | .p _ :: _, _, _, _, e => by cases e
def dLstK (fs : Sig → AH → Res (List DV)) : Sig → AH → Res (List Nat) := fun δ S => (fs δ S).bind fun ds S => match cells ds with
  | some ks => if ks.length ≤ 1000 then .ok ks S else .bad
  | none => .bad
theorem fk_lst {X : Cx} {E : L2.St → XK} {es : List Expr} {pos : Pos} {fs : Sig → AH → Res (List DV)} (h : DA X E es fs) : FK X E (.List es pos) (dLstK fs) := (pe_lst h).imp fun σ H Q ⟨as, δ, S, sr, er, w⟩ =>
  ⟨as, δ, S, sr, er, (WK.bind w).mono fun _ _ _ _ vs _ _ _ _ ⟨as1, S1, ds, _, x1, s1, r1, w1⟩ => by
    split at w1
    · rename_i ks e
      split at w1
      · rename_i z
        have t := cells_ok r1 e
        have z2 : vs.length ≤ sizeLine := by rw [t.length]; exact le1000 z
        exact ⟨z2, fun p n => w1.here s1 z2 t n⟩
      · exact w1.elim
    · exact w1.elim⟩
open Classical in
def lcGoK (ck : AH → Prop) (q : Pat) (fc : Sig → AH → Res Bool) (fe : Sig → AH → Res DV) (δ : Sig) : List DV → AH → Res (List Nat)
  | [], S => if ck S then .ok [] S else .bad
  | x :: xs, S => if ck S then match q.set x δ with
    | none => .bad
    | some δ2 => (fc δ2 S).nox.bind fun b S1 => if b = true then (fe δ2 S1).nox.bind fun d S2 => match d with
        | .c y => (lcGoK ck q fc fe δ xs S2).bind fun ys S3 => .ok (y :: ys) S3
        | .p _ => .bad
      else lcGoK ck q fc fe δ xs S1
    else .bad
def dLcK (fi : Sig → AH → Res Its') (q : Pat) (fc : Sig → AH → Res Bool) (fe : Sig → AH → Res DV) (vs : List Nat) : Sig → AH → Res (List Nat) := fun δ S => (fi δ S).bind fun x S1 => if x.1.length ≤ 16777216 then lcGoK x.2 q fc fe (wipeD δ vs) x.1 S1 else .bad
section
variable {X : Cx} {E : L2.St → XK} {elt tg iter : Expr} {ifs : List Expr} {scope : Scope} {own : List (Str × Nat)} {pos : Pos} {fi : Sig → AH → Res Its'} {q : Pat} {fc : Sig → AH → Res Bool} {fe : Sig → AH → Res DV}
theorem lc_tN {σ : L2.St} {H : Hp} {Q : VK} {as : As} {δ : Sig} {S : AH} {vs : List Nat} (hq : ∀ i ∈ q.slots, i ∈ vs) (sr : SR (wd X) as H S) (er : ER (wd X) as H σ δ) (w : WK (wd X) (E σ) as H (dLcK fi q fc fe vs δ S) Q) :
    tLc (tI (wd X) E fi) (tPat X.K q) (tDT (wd X) EN fc) (tD (wd X) EN fe) vs σ H Q := by
  refine ⟨as, δ, S, sr, er, (WK.bind w).mono fun _ _ _ H1 J _ _ _ _ ⟨as1, S1, x, _, e1, s1, y1, w1⟩ => ?_⟩
  obtain ⟨xs, ck⟩ := x
  intro D nD
  have er1 := er.mono e1.w
  have nh : ¬ as1.hid D := (s1.fresh nD).2
  dsimp only at w1 y1
  have hz : xs.length ≤ 16777216 := by
    refine Classical.byContradiction fun n => ?_
    rw [if_neg n] at w1
    exact w1
  rw [if_pos hz] at w1
  refine ⟨fun i m H => m = xs.length - i ∧ i ≤ xs.length ∧ ∃ (asm : As) (Sm : AH) (accV : List V) (accP : List Nat), H D = some (.lst accV) ∧ accV.length ≤ i ∧ Ext as1 H1 asm (del H D) ∧ SR (wd X) asm (del H D) Sm ∧ KRs asm accV accP ∧
      WK (wd X) (E σ) asm (del H D) ((lcGoK ck q fc fe (wipeD δ vs) (xs.drop i) Sm).bind fun ys S => .ok (accP ++ ys) S) Q, ⟨xs.length, rfl, Nat.zero_le _, as1, S1, [], [], upd_same, Nat.zero_le _, ?_⟩, ?_⟩
  · rw [del_upd nD]
    refine ⟨Ext.refl _ _, s1, .nil, ?_⟩
    rw [List.drop_zero]
    have e : ((lcGoK ck q fc fe (wipeD δ vs) xs S1).bind fun ys S => Res.ok ([] ++ ys) S) = lcGoK ck q fc fe (wipeD δ vs) xs S1 := by
      cases lcGoK ck q fc fe (wipeD δ vs) xs S1 <;> rfl
    rw [e]
    exact w1
  · rintro i m H2 ⟨rfl, hi, asm, Sm, accV, accP, hD, hlen, em, sm, tm, wm⟩
    have eH : upd (del H2 D) D (.lst accV) = H2 := upd_del hD
    have nm : del H2 D D = none := del_same _ _
    have nhm : ¬ asm.hid D := by rw [em.hids]; exact nh
    have sh : SR (wd X) (asm.hide D) H2 Sm := by have := sm.hide (o := .lst accV) nm; rw [eH] at this; exact this
    have xw : Exw as1 H1 (asm.hide D) H2 := by have := em.w.hide (o := .lst accV) nD; rw [eH] at this; exact this
    by_cases hlt : i < xs.length
    · have hx : xs[i]? = some xs[i] := List.getElem?_eq_getElem hlt
      have hd : xs.drop i = xs[i] :: xs.drop (i + 1) := List.drop_eq_getElem_cons hlt
      rw [hd] at wm
      unfold lcGoK at wm
      have hck : ck Sm := by
        refine Classical.byContradiction fun n => ?_
        rw [if_neg n] at wm
        exact wm
      rw [if_pos hck] at wm
      refine .inr ⟨y1.go _ _ _ xw sh hck i hlt, fun H' => (i + 1 ≤ xs.length ∧ ∃ (asm : As) (Sm : AH) (accV : List V) (accP : List Nat), H' D = some (.lst accV) ∧ accV.length ≤ i + 1 ∧ Ext as1 H1 asm (del H' D) ∧ SR (wd X) asm (del H' D) Sm ∧ KRs asm accV accP ∧
        WK (wd X) (E σ) asm (del H' D) ((lcGoK ck q fc fe (wipeD δ vs) (xs.drop (i + 1)) Sm).bind fun ys S => .ok (accP ++ ys) S) Q), fun H' n => ⟨xs.length - (i + 1), by omega, rfl, n.1, n.2⟩, fun v H' yv => ?_⟩
      obtain ⟨e3, s3, r3⟩ := y1.yld _ _ _ xw sh hck i _ v H' hx yv
      cases eq : q.set xs[i] (wipeD δ vs) with
      | none => rw [eq] at wm; exact wm.elim
      | some δ2 =>
        rw [eq] at wm
        dsimp only at wm
        rw [bind_assoc'] at wm
        have erh : ER (wd X) (asm.hide D) H' (L2.wipe σ vs) (wipeD δ vs) := ((er1.mono xw).wipe vs).mono e3.w
        refine tPat_ok (M := wd X) q erh r3 eq fun σ2 er2 wi2 => ⟨by rw [wi2 vs hq, wipe_idem], ?_⟩
        obtain ⟨b, Sb, eb, wb⟩ := nox_cases (fun r => WK (wd X) (E σ) asm (del H2 D) r Q) (fun z => z) wm
        refine ⟨asm.hide D, δ2, Sm, s3, er2, ?_⟩
        rw [eb]
        intro as4 H4 b4 e4 s4 q4
        cases q4
        have ec : Ext (asm.hide D) (upd (del H2 D) D (.lst accV)) as4 H4 := by rw [eH]; exact e3.trans e4
        cases b with
        | false =>
          rw [if_neg Bool.false_ne_true] at wb ⊢
          obtain ⟨u1, u2, u3⟩ := Ext.unhide nm nhm ec
          rw [u2] at s4
          exact ⟨hlt, ⟨as4.cells, asm.hid⟩, Sb, accV, accP, u3, by omega, em.trans u1, s4.unhide nhm ⟨_, u3⟩, tm.mono u1.w, WK.later u1 wb⟩
        | true =>
          rw [if_pos rfl] at wb ⊢
          rw [bind_assoc'] at wb
          obtain ⟨d, Sd, ed, wd'⟩ := nox_cases (fun r => WK (wd X) (E σ) asm (del H2 D) r Q) (fun z => z) wb
          refine ⟨as4, δ2, Sb, s4, er2.mono e4.w, ?_⟩
          rw [ed]
          intro as5 H5 y e5 s5 r5
          have ec5 : Ext (asm.hide D) (upd (del H2 D) D (.lst accV)) as5 H5 := ec.trans e5
          obtain ⟨u1, u2, u3⟩ := Ext.unhide nm nhm ec5
          rw [u2] at s5 r5
          cases d with
          | p n => exact wd'.elim
          | c yv =>
            obtain ⟨bb, eb2, rfl⟩ := r5
            refine ⟨accV, u3, ?_, hlt, ⟨as5.cells, asm.hid⟩, Sd, accV ++ [.ref bb], accP ++ [yv], upd_same, by rw [List.length_append, List.length_singleton]; omega, ?_⟩
            · have hs : sizeLine = 16777216 := by decide
              omega
            rw [del_updu]
            refine ⟨em.trans u1, s5.unhide nhm ⟨_, u3⟩, (tm.mono u1.w).append (.cons ⟨bb, eb2, rfl⟩ .nil), ?_⟩
            have e : ((lcGoK ck q fc fe (wipeD δ vs) (xs.drop (i + 1)) Sd).bind fun ys S => Res.ok (accP ++ [yv] ++ ys) S) = ((lcGoK ck q fc fe (wipeD δ vs) (xs.drop (i + 1)) Sd).bind fun ys S => Res.ok (yv :: ys) S).bind fun ys S => Res.ok (accP ++ ys) S := by
              cases lcGoK ck q fc fe (wipeD δ vs) (xs.drop (i + 1)) Sd <;> simp [Res.bind]
            rw [e]
            exact WK.later u1 wd'
    · have hi' : i = xs.length := by omega
      subst hi'
      rw [List.drop_length] at wm
      unfold lcGoK at wm
      have hck : ck Sm := by
        refine Classical.byContradiction fun n => ?_
        rw [if_neg n] at wm
        exact wm
      rw [if_pos hck] at wm
      refine .inl ⟨y1.stop _ _ _ xw sh hck, ?_⟩
      have wq : WK (wd X) (E σ) asm (del H2 D) (Res.ok (accP ++ []) Sm) Q := wm
      rw [List.append_nil] at wq
      have := wq.here sm (by have hs : sizeLine = 16777216 := by decide
                             omega) tm nm
      rw [eH] at this
      exact this
theorem fk_lc (g : Gd X E) (hN : X.N.Nodup) (hi : DI X E tg iter fi) (ok : BlkOk X.N X.env.scope scope own)
    (hg : ∀ (s : Shared) (H : Hp) (C : Addr) (cl : List (Str × Addr)) (fp : List Addr), DG (X.blk s H scope (compEnvC scope cl C X.env) fp) tg q) (ht : ∀ (s : Shared) (H : Hp) (C : Addr) (cl : List (Str × Addr)) (fp : List Addr), DTs (X.blk s H scope (compEnvC scope cl C X.env) fp) EN ifs fc)
    (he : ∀ (s : Shared) (H : Hp) (C : Addr) (cl : List (Str × Addr)) (fp : List Addr), DE (X.blk s H scope (compEnvC scope cl C X.env) fp) EN elt fe) (hq : ∀ i ∈ q.slots, i ∈ own.map (·.2)) (hs : ∀ x, foldedSetIterable iter X.env x = pure x := by intro _; rfl) :
    FK X E (.ListComp elt [⟨tg, iter, ifs, 0⟩] scope pos) (dLcK fi q fc fe (own.map (·.2))) :=
  L2.PE.imp (pe_lc g.calm hN hi ok hg ht he hs) fun σ H Q ⟨as, δ, S, sr, er, w⟩ => lc_tN hq sr er w
/-- y = [.. for ..], cells in it -/
def dSetN (i : Nat) (f : Sig → AH → Res (List Nat)) : Sig → AH → Out := fun δ S => (dNest f δ S).out δ fun d S => .nx (δ.set i (some d)) S
theorem ds_setLcN {i : Nat} {y : Str} {py spos : Pos} (g : Gd X E) (hN : X.N.Nodup) (hy : X.N[i]? = some y) (hyl : X.env.scope.names.lookup y = some .local)
    (hsw : swapsWith (.ListComp elt [⟨tg, iter, ifs, 0⟩] scope pos) (some (.Name y py)) spos.line X.env = pure true) (hi : DI X E tg iter fi) (ok : BlkOk X.N X.env.scope scope own)
    (hg : ∀ (s : Shared) (H : Hp) (C : Addr) (cl : List (Str × Addr)) (fp : List Addr), DG (X.blk s H scope (compEnvC scope cl C X.env) fp) tg q) (ht : ∀ (s : Shared) (H : Hp) (C : Addr) (cl : List (Str × Addr)) (fp : List Addr), DTs (X.blk s H scope (compEnvC scope cl C X.env) fp) EN ifs fc)
    (he : ∀ (s : Shared) (H : Hp) (C : Addr) (cl : List (Str × Addr)) (fp : List Addr), DE (X.blk s H scope (compEnvC scope cl C X.env) fp) EN elt fe) (hq : ∀ i ∈ q.slots, i ∈ own.map (·.2)) (hs : ∀ x, foldedSetIterable iter X.env x = pure x := by intro _; rfl) :
    DS X E (.Assign [.Name y py] (.ListComp elt [⟨tg, iter, ifs, 0⟩] scope pos) spos) (dSetN i (dLcK fi q fc fe (own.map (·.2)))) :=
  (ps_setLc g.calm hN hy hyl hsw hi ok hg ht he hs).imp fun D σ H ⟨as, δ, S, sr, er, w⟩ => lc_tN hq sr er (WK.nest ((w.bind er).mono fun _ _ _ _ v _ _ _ _ ⟨as1, S1, d1, _, x1, s1, r1, w1⟩ => w1.here s1 ((er.mono x1.w).set r1 i)))
end
/-! ### list(range(..)) -/
def rgI (i j : Int) : List Int := (List.range (j - i).toNat).map fun (k : Nat) => i + (k : Int)
open Classical in
def dLstRg (fa fb : Sig → AH → Res DV) : Sig → AH → Res (List PV) := fun δ S => (fa δ S).bind fun a S => (fb δ S).bind fun b S => match a, b with
  | .p (.int i), .p (.int j) => if RgOk i j then .ok ((rgI i j).map PV.int) S else .bad
  | _, _ => .bad
theorem rgV_map (i j : Int) : rgV i j = (rgI i j).map V.int := by
  unfold rgV rgI
  rw [List.map_map]
  rfl
section
variable {X : Cx} {E : L2.St → XK} {a b : Expr} {p p2 pos pos2 : Pos} {fa fb : Sig → AH → Res DV}
theorem fe_lrg2 (g : Gd X E) (hg : Gl X "list") (hm : X.mg "list" = none) (hg2 : Gl X "range") (hm2 : X.mg "range" = none) (ha : DE X E a fa) (hb : DE X E b fb) (na : starEach [a, b] X.env = (false, eval a X.env) :: starEach [b] X.env := by rfl) (nb : starEach [b] X.env = (false, eval b X.env) :: starEach [] X.env := by rfl) (hpr : (backTo pos2 (starEach [b] X.env)).any (·.1) = false := by rfl)
    (ne : starEach [.Call (.Name "range" p2) [a, b] [] pos2] X.env = (false, eval (.Call (.Name "range" p2) [a, b] [] pos2) X.env) :: starEach [] X.env := by rfl) :
    FE X E (.Call (.Name "list" p) [.Call (.Name "range" p2) [a, b] [] pos2] [] pos) (dLstRg fa fb) := (pe_listRg g.calm hg hm (prg_2 hg2 hm2 ha hb na nb hpr) ne).imp fun σ H Q ⟨as, δ, S, sr, er, w⟩ =>
  ⟨as, δ, S, sr, er, (WF.bind w).mono fun _ _ _ _ v _ _ _ _ ⟨as1, S1, d1, _, x1, s1, r1, w1⟩ => ⟨as1, δ, S1, s1, er.mono x1.w, (WF.bind w1).mono fun _ _ _ _ u _ _ _ _ ⟨as2, S2, d2, _, x2, s2, r2, w2⟩ => by
    have r1' := r1.mono x2.w
    split at w2
    · cases r1'; cases r2
      split at w2
      · rename_i z
        refine ⟨_, _, rfl, rfl, z, fun q n => ?_⟩
        rw [rgV_map]
        refine w2.here s2 ?_ (PRs.of_ints _) n
        rw [← rgV_map, rgV_length]
        exact z.2.2.2.2
      · exact w2.elim
    · exact w2.elim⟩⟩
end
end
end DL
namespace DL
noncomputable section
open PySem L2
section
variable {δ : Sig} {S : AH} {fa : Sig → AH → Res DV} {fs : Sig → AH → Res (List DV)} {fk : Sig → AH → Res (List Nat)} {q : Pat} {fi : Sig → AH → Res Its'} {fc : Sig → AH → Res Bool} {fe : Sig → AH → Res DV}
def kLstRg2 (a b : DV) (S : AH) : Res (List PV) := match a, b with
  | .p (.int i), .p (.int j) => (open Classical in if RgOk i j then .ok ((rgI i j).map PV.int) S else .bad)
  | _, _ => .bad
def kLstRg (fb : Sig → AH → Res DV) (δ : Sig) (a : DV) (S : AH) : Res (List PV) := (fb δ S).bind (kLstRg2 a)
@[simp] theorem ev_lstRg {fb : Sig → AH → Res DV} : dLstRg fa fb δ S = (fa δ S).bind (kLstRg fb δ) := (rfl)
@[simp] theorem ev_kLstRg {fb : Sig → AH → Res DV} {a : DV} : kLstRg fb δ a S = (fb δ S).bind (kLstRg2 a) := (rfl)
theorem kLstRg2_ok {i j : Int} (h : RgOk i j) : kLstRg2 (.p (.int i)) (.p (.int j)) S = .ok ((rgI i j).map PV.int) S := by
  unfold kLstRg2
  dsimp only
  rw [if_pos h]
def kNest (ks : List Nat) (S : AH) : Res DV := .ok (.c S.length) (S ++ [.nst ks])
@[simp] theorem ev_nest : dNest fk δ S = (fk δ S).bind kNest := (rfl)
@[simp] theorem ev_kNest {ks : List Nat} : kNest ks S = .ok (.c S.length) (S ++ [.nst ks]) := (rfl)
@[simp] theorem ev_setN {i : Nat} : dSetN i fk δ S = (dNest fk δ S).out δ (jSet i δ) := (rfl)
def kLstK (ds : List DV) (S : AH) : Res (List Nat) := match cells ds with
  | some ks => if ks.length ≤ 1000 then .ok ks S else .bad
  | none => .bad
@[simp] theorem ev_lstK : dLstK fs δ S = (fs δ S).bind kLstK := (rfl)
@[simp] theorem kLstK0 : kLstK [] S = .ok [] S := (rfl)
@[simp] theorem kLstK1 {a : Nat} : kLstK [.c a] S = .ok [a] S := (rfl)
@[simp] theorem kLstK2 {a b : Nat} : kLstK [.c a, .c b] S = .ok [a, b] S := (rfl)
@[simp] theorem kLstK3 {a b c : Nat} : kLstK [.c a, .c b, .c c] S = .ok [a, b, c] S := (rfl)
def kLcK (q : Pat) (fc : Sig → AH → Res Bool) (fe : Sig → AH → Res DV) (vs : List Nat) (δ : Sig) (x : Its') (S : AH) : Res (List Nat) := if x.1.length ≤ 16777216 then lcGoK x.2 q fc fe (wipeD δ vs) x.1 S else .bad
@[simp] theorem ev_lcK {vs : List Nat} : dLcK fi q fc fe vs δ S = (fi δ S).bind (kLcK q fc fe vs δ) := (rfl)
theorem ev_kLcK {vs : List Nat} {xs : List DV} {ck : AH → Prop} (h : xs.length ≤ 16777216) : kLcK q fc fe vs δ (xs, ck) S = lcGoK ck q fc fe (wipeD δ vs) xs S := by
  unfold kLcK
  rw [if_pos h]
theorem lcK_nil {ck : AH → Prop} (h : ck S) : lcGoK ck q fc fe δ [] S = .ok [] S := by
  unfold lcGoK
  rw [if_pos h]
def kLcCK (y : Nat) (ys : List Nat) (S : AH) : Res (List Nat) := .ok (y :: ys) S
theorem lcK_take {ck : AH → Prop} {x : DV} {y : Nat} {xs : List DV} {δ2 : Sig} {S1 S2 : AH} (h : ck S) (hq : q.set x δ = some δ2) (hc : fc δ2 S = .ok true S1) (he : fe δ2 S1 = .ok (.c y) S2) :
    lcGoK ck q fc fe δ (x :: xs) S = (lcGoK ck q fc fe δ xs S2).bind (kLcCK y) := by
  rw [show lcGoK ck q fc fe δ (x :: xs) S = _ from by unfold lcGoK; rfl, if_pos h]
  simp only [hq, hc, nox_ok, Res.bind_ok, if_true, he]
  rfl
/-- a comprehension of new flat lists -/
theorem lcK_cells (g : PV → List PV) : ∀ {xs : List PV} {S : AH}, (∀ x ∈ xs, ∀ S, ∃ δ2, q.set (.p x) δ = some δ2 ∧ fe δ2 S = .ok (.c S.length) (S ++ [.lst (g x)])) → lcGoK ckT q dYes fe δ (dit xs) S = .ok (List.range' S.length xs.length) (S ++ xs.map fun x => Cell.lst (g x))
  | [], S, _ => by rw [dit_nil, lcK_nil trivial]; simp
  | x :: xs, S, h => by
    obtain ⟨δ2, h1, h2⟩ := h x List.mem_cons_self S
    rw [dit_cons, lcK_take trivial h1 rfl h2, lcK_cells g fun y hy => h y (List.mem_cons_of_mem _ hy)]
    simp [kLcCK, List.range'_succ]
end
/-! ### a nest of flat lists above R -/
structure NestK (R S : AH) (n : Nat) (ks : List Nat) (rs : List (List PV)) : Prop where
  pre : S.take R.length = R
  nst : S[n]? = some (.nst ks)
  len : ks.length = rs.length
  lo : R.length ≤ n
  klo : ∀ k ∈ ks, R.length ≤ k
  nd : ks.Nodup
  nk : n ∉ ks
  row : ∀ i k, ks[i]? = some k → S[k]? = some (Cell.lst (rs.getD i []))
def Nest (R S : AH) (n : Nat) (rs : List (List PV)) : Prop := ∃ ks, NestK R S n ks rs
theorem okC_take {m : Nat} {R S : AH} (h : S.take R.length = R) : okC m R S := by
  have e : S = R ++ S.drop R.length := by
    have := List.take_append_drop R.length S
    rw [h] at this
    exact this.symm
  rw [e]
  exact okC_app m R _
theorem take_set {R S : AH} {k : Nat} {c : Cell} (h : S.take R.length = R) (hk : R.length ≤ k) : (S.set k c).take R.length = R := by
  rw [List.take_set, h, List.set_eq_of_length_le hk]
theorem take_more {R S J : AH} (h : S.take R.length = R) : (S ++ J).take R.length = R := by
  have hl : R.length ≤ S.length := by
    have := congrArg List.length h
    rw [List.length_take] at this
    omega
  rw [List.take_append_of_le_length hl, h]
section
variable {R S : AH} {n : Nat} {rs : List (List PV)}
theorem Nest.pre (h : Nest R S n rs) : S.take R.length = R := h.choose_spec.pre
theorem Nest.lenO (h : Nest R S n rs) : lenO [.c n] S = some (.p (.int rs.length), S) := by
  obtain ⟨ks, h⟩ := h
  unfold DL.lenO items nitems
  simp only [h.nst, h.len]
theorem Nest.ix (h : Nest R S n rs) {i : Nat} (hi : i < rs.length) : ∃ k, ixO (.c n) (.p (.int (i : Int))) S = some (.c k, S) ∧ S[k]? = some (Cell.lst (rs.getD i [])) ∧ R.length ≤ k ∧ k ≠ n ∧ ∀ xs, Nest R (S.set k (.lst xs)) n (rs.set i xs) := by
  obtain ⟨ks, h⟩ := h
  have hk : i < ks.length := by rw [h.len]; exact hi
  have e := List.getElem?_eq_getElem hk
  have hm : ks[i] ∈ ks := List.getElem_mem hk
  have ne : ks[i] ≠ n := fun z => h.nk (by rw [← z]; exact hm)
  refine ⟨ks[i], ?_, h.row i _ e, h.klo _ hm, ne, fun xs => ⟨ks, take_set h.pre (h.klo _ hm), by rw [List.getElem?_set_ne ne]; exact h.nst, by rw [List.length_set]; exact h.len, h.lo, h.klo, h.nd, h.nk, fun j k ej => ?_⟩⟩
  · unfold ixO items nitems
    have a : atI ks (i : Int) = some ks[i] := by
      unfold atI ixN
      rw [if_pos (by omega), if_pos (by omega)]
      simp [e]
    simp only [h.nst, a, Option.map_some]
  · by_cases z : i = j
    · subst z
      rw [e] at ej; cases ej
      have hs : ks[i] < S.length := (List.getElem?_eq_some_iff.mp (h.row i _ e)).1
      rw [List.getElem?_set_self hs]
      simp [hi]
    · have hj : j < ks.length := (List.getElem?_eq_some_iff.mp ej).1
      have ne2 : ks[i] ≠ k := fun w => by
        rw [List.getElem?_eq_getElem hj] at ej
        exact z ((List.getElem_inj h.nd).mp (by rw [w]; exact (Option.some.inj ej).symm))
      rw [List.getElem?_set_ne ne2, h.row j k ej]
      simp [List.getElem?_set_ne z]
/-- a new row -/
theorem Nest.push (h : Nest R S n rs) (xs : List PV) (z : rs.length < 16777216) : ∃ S', appendM (.c n) [.c S.length] (S ++ [Cell.lst xs]) = some (.p .non, S') ∧ Nest R S' n (rs ++ [xs]) := by
  obtain ⟨ks, h⟩ := h
  have hn : n < S.length := (List.getElem?_eq_some_iff.mp h.nst).1
  have hl : R.length ≤ S.length := by
    have := congrArg List.length h.pre
    rw [List.length_take] at this
    omega
  have e : (S ++ [Cell.lst xs])[n]? = some (.nst ks) := by rw [List.getElem?_append_left hn]; exact h.nst
  have kl : ∀ k ∈ ks, k < S.length := fun k hk => by
    obtain ⟨j, hj⟩ := List.mem_iff_getElem?.mp hk
    exact (List.getElem?_eq_some_iff.mp (h.row j k hj)).1
  refine ⟨(S ++ [Cell.lst xs]).set n (Cell.nst (ks ++ [S.length])), ?_, ks ++ [S.length], take_set (take_more h.pre) h.lo, ?_, by rw [List.length_append, List.length_append, h.len]; rfl, h.lo, fun k hk => ?_, ?_, fun hk => ?_, fun j k ej => ?_⟩
  · unfold appendM
    simp only [e]
    rw [if_pos (by rw [h.len]; exact z)]
  · rw [List.getElem?_set_self (by rw [List.length_append]; omega)]
  · rcases List.mem_append.mp hk with hk | hk
    · exact h.klo k hk
    · rcases List.mem_singleton.mp hk with rfl
      exact hl
  · refine List.nodup_append.mpr ⟨h.nd, by simp, fun a ha b hb => ?_⟩
    rcases List.mem_singleton.mp hb with rfl
    exact Nat.ne_of_lt (kl a ha)
  · rcases List.mem_append.mp hk with hk | hk
    · exact h.nk hk
    · have : n = S.length := by simpa using hk
      omega
  · by_cases hj : j < ks.length
    · rw [List.getElem?_append_left hj] at ej
      have hm := List.mem_of_getElem? ej
      have ne : n ≠ k := fun w => h.nk (by rw [w]; exact hm)
      rw [List.getElem?_set_ne ne, List.getElem?_append_left (kl k hm), h.row j k ej]
      have : j < rs.length := by rw [← h.len]; exact hj
      simp [List.getElem?_append_left this]
    · have hj2 : j < (ks ++ [S.length]).length := (List.getElem?_eq_some_iff.mp ej).1
      rw [List.length_append, List.length_singleton] at hj2
      have : j = ks.length := by omega
      subst this
      rw [List.getElem?_append_right (Nat.le_refl _), Nat.sub_self] at ej
      have : S.length = k := by simpa using ej
      subst this
      rw [List.getElem?_set_ne (by omega), List.getElem?_append_right (Nat.le_refl _), Nat.sub_self]
      rw [h.len]
      simp
theorem Nest.meth {o : OpM} {fs : Sig → AH → Res (List DV)} {δ : Sig} (h : Nest R S n rs) : kMeth o fs δ (.c n) S = (fs δ S).bind (kMeth2 o (.c n)) := by
  obtain ⟨ks, h⟩ := h
  refine ev_kMethN (ks := ks) ?_
  unfold nitems
  simp only [h.nst]
theorem frzCs_of {m : Nat} {S : AH} : ∀ {ks : List Nat} {rs : List (List PV)}, ks.length = rs.length → (∀ i k, ks[i]? = some k → m ≤ k ∧ S[k]? = some (Cell.lst (rs.getD i []))) → frzCs m S ks = some (rs.map PV.lst)
  | [], [], _, _ => rfl
  | [], _ :: _, h, _ => by simp at h
  | _ :: _, [], h, _ => by simp at h
  | k :: ks, r :: rs, h, hr => by
    obtain ⟨h1, h2⟩ := hr 0 k rfl
    have e1 : frzC m S k = some (.lst r) := by
      unfold frzC
      rw [if_pos h1]
      simp only [h2]
      rfl
    have e2 := frzCs_of (m := m) (S := S) (ks := ks) (rs := rs) (by simpa using h) fun i k' e => by
      have := hr (i + 1) k' (by simpa using e)
      simpa using this
    simp [frzCs, e1, e2]
theorem Nest.frz (h : Nest R S n rs) : frzD R.length S (.c n) = some (.lst (rs.map PV.lst)) := by
  obtain ⟨ks, h⟩ := h
  unfold frzD
  dsimp only
  rw [if_pos h.lo]
  simp only [h.nst]
  rw [frzCs_of h.len fun i k e => ⟨h.klo k (List.mem_of_getElem? e), h.row i k e⟩]
  rfl
/-- lists from a comprehension, then the nest -/
theorem nest_new (R : AH) (rs : List (List PV)) : Nest R (R ++ rs.map Cell.lst ++ [Cell.nst (List.range' R.length rs.length)]) (R.length + rs.length) rs := by
  refine ⟨List.range' R.length rs.length, ?_, ?_, by simp, by omega, fun k hk => ?_, List.nodup_range', fun hk => ?_, fun i k e => ?_⟩
  · rw [List.append_assoc, List.take_append_of_le_length (Nat.le_refl _), List.take_length]
  · rw [List.getElem?_append_right (by simp)]
    simp
  · have := List.mem_range'_1.mp hk
    omega
  · have := List.mem_range'_1.mp hk
    omega
  · have hi : i < rs.length := by
      have := (List.getElem?_eq_some_iff.mp e).1
      simpa using this
    have ek : k = R.length + i := by
      have := (List.getElem?_eq_some_iff.mp e).2
      simp at this
      omega
    subst ek
    rw [List.getElem?_append_left (by simp; omega), List.getElem?_append_right (by omega), Nat.add_sub_cancel_left]
    simp [hi]
end
end
end DL
namespace DL
noncomputable section
open PySem L2
section
variable {S : AH} {fb : Sig → AH → Out} {i : Nat} {d : DV}
/-- a loop that gives a value back at the first item that fails -/
theorem for_guardL (I : Sig → Prop) (b : PV → Bool) : ∀ {xs : List PV} {δ : Sig}, I δ → (∀ x ∈ xs, ∀ δ, I δ → (b x = true → ∃ δ', I δ' ∧ fb (δ.set i (some (.p x))) S = .nx δ' S) ∧ (b x = false → fb (δ.set i (some (.p x))) S = .rt d S)) →
    (xs.all b = true → ∃ δ', I δ' ∧ forGo ckT (.nm i) fb (dit xs) δ S = .nx δ' S) ∧ (xs.all b = false → forGo ckT (.nm i) fb (dit xs) δ S = .rt d S)
  | [], δ, h, _ => ⟨fun _ => ⟨δ, h, by rw [dit_nil, for_nil]⟩, fun e => by simp at e⟩
  | x :: xs, δ, h, st => by
    obtain ⟨s1, s2⟩ := st x List.mem_cons_self δ h
    rw [dit_cons, for_nm, List.all_cons]
    cases e : b x with
    | false =>
      rw [s2 e, after_rt]
      exact ⟨fun z => by simp at z, fun _ => rfl⟩
    | true =>
      obtain ⟨δ1, h1, e1⟩ := s1 e
      rw [e1, after_nx, Bool.true_and]
      exact for_guardL I b h1 fun y hy => st y (List.mem_cons_of_mem _ hy)
theorem for_guard (I : Sig → Prop) : ∀ {n : Nat} {lo : Int} {b : Nat → Bool} {δ : Sig}, I δ → (∀ k < n, ∀ δ, I δ → (b k = true → ∃ δ', I δ' ∧ fb (δ.set i (some (.p (.int (lo + (k : Int)))))) S = .nx δ' S) ∧ (b k = false → fb (δ.set i (some (.p (.int (lo + (k : Int)))))) S = .rt d S)) →
    ((List.range n).all b = true → ∃ δ', I δ' ∧ forGo ckT (.nm i) fb (rangeI lo n) δ S = .nx δ' S) ∧ ((List.range n).all b = false → forGo ckT (.nm i) fb (rangeI lo n) δ S = .rt d S)
  | 0, lo, b, δ, h, _ => ⟨fun _ => ⟨δ, h, for_nil⟩, fun e => by simp at e⟩
  | n + 1, lo, b, δ, h, st => by
    obtain ⟨s1, s2⟩ := st 0 (by omega) δ h
    rw [show lo + ((0 : Nat) : Int) = lo by simp] at s1 s2
    have er : (List.range (n + 1)).all b = (b 0 && (List.range n).all fun k => b (k + 1)) := by
      rw [List.range_succ_eq_map, List.all_cons, List.all_map]; rfl
    rw [range_succ, for_nm, er]
    cases e : b 0 with
    | false =>
      rw [s2 e, after_rt]
      exact ⟨fun z => by simp at z, fun _ => rfl⟩
    | true =>
      obtain ⟨δ1, h1, e1⟩ := s1 e
      rw [e1, after_nx, Bool.true_and]
      exact for_guard I (lo := lo + 1) (b := fun k => b (k + 1)) h1 fun k hk δ hδ => by
        have := st (k + 1) (by omega) δ hδ
        rwa [show lo + ((k + 1 : Nat) : Int) = lo + 1 + (k : Int) by omega] at this
end
theorem rg_len (n : Nat) (h : n ≤ 1000000) (S : AH) : kRng1 [.p (.int (n : Int))] S = .ok (rangeI 0 n, ckT) S := by
  have e : small62 (n : Int) := small62_of (by omega)
  rw [kRng1_ok e, Int.toNat_natCast]
theorem rg_two (m n : Nat) (h : n ≤ 1000000) (h2 : m ≤ 1000000) (S : AH) : kRng2 [.p (.int (m : Int)), .p (.int (n : Int))] S = .ok (rangeI m (n - m), ckT) S := by
  rw [kRng2_ok (small62_of (by omega)) (small62_of (by omega))]
  congr 3
  omega
theorem asg2 {a b : Nat} {x y : PV} {δ : Sig} {S : AH} : jAsg (.tp [.nm a, .nm b]) δ (.p (.tup [x, y])) S = .nx ((δ.set a (some (.p x))).set b (some (.p y))) S := ev_jAsg rfl
theorem datas_ints : ∀ ns : List Int, PV.datas (ns.map PV.int) = some (ns.map PyData.int)
  | [] => by simp [PV.datas]
  | n :: ns => by simp [PV.datas, PV.data, datas_ints ns]
theorem eqvAll_ints : ∀ as bs : List Int, PyData.eqvAll (as.map PyData.int) (bs.map PyData.int) = decide (as = bs)
  | [], [] => by simp [PyData.eqvAll]
  | [], b :: bs => by simp [PyData.eqvAll]
  | a :: as, [] => by simp [PyData.eqvAll]
  | a :: as, b :: bs => by
    rw [List.map_cons, List.map_cons, PyData.eqvAll, eqvAll_ints as bs, eqv_int]
    by_cases h : a = b
    · by_cases h2 : as = bs <;> simp [h, h2]
    · simp [h]
theorem sh_ints (ns : List Int) : SeqAt.shaped (.list (ns.map PyData.int)) = true := by
  obtain ⟨d, h1, h2⟩ := fit_shaped (x := .lst (ns.map PV.int)) (n := 1) (fit_ints ns) (by decide)
  have : PV.data (.lst (ns.map PV.int)) = some (.list (ns.map PyData.int)) := by simp [PV.data, datas_ints]
  rw [this] at h1
  cases h1
  exact h2
theorem eqO_ints {as bs : List Int} {S : AH} : eqO (.p (.lst (as.map PV.int))) (.p (.lst (bs.map PV.int))) S = some (.p (.bl (decide (as = bs))), S) := by
  have e : PyData.eqv (.list (as.map PyData.int)) (.list (bs.map PyData.int)) = decide (as = bs) := by rw [PyData.eqv]; exact eqvAll_ints as bs
  unfold eqO dataOf
  simp only [PV.data, datas_ints, Option.map_some, eqDat, sh_ints, and_self, if_true, e]
theorem neO_ints {as bs : List Int} {S : AH} : neO (.p (.lst (as.map PV.int))) (.p (.lst (bs.map PV.int))) S = some (.p (.bl (!decide (as = bs))), S) := by
  have e : PyData.eqv (.list (as.map PyData.int)) (.list (bs.map PyData.int)) = decide (as = bs) := by rw [PyData.eqv]; exact eqvAll_ints as bs
  unfold neO dataOf
  simp only [PV.data, datas_ints, Option.map_some, eqDat, sh_ints, and_self, if_true, e]
theorem eqv_bl (a b : Bool) : PyData.eqv (.bool a) (.bool b) = decide (a = b) := by
  cases a <;> cases b <;> simp [PyData.eqv]
@[simp] theorem eqO_bl {a b : Bool} {S : AH} : eqO (.p (.bl a)) (.p (.bl b)) S = some (.p (.bl (decide (a = b))), S) := by
  have h1 : SeqAt.shaped (.bool a) = true := rfl
  have h2 : SeqAt.shaped (.bool b) = true := rfl
  unfold eqO dataOf
  simp only [PV.data, eqDat, h1, h2, and_self, if_true, Option.map_some, eqv_bl]
theorem sorted_c {n : Nat} {ns : List Int} {S : AH} (h : S[n]? = some (.lst (ns.map PV.int))) : sortedF [.c n] S = some ((sortI ns).map PV.int) := by
  unfold sortedF
  simp only [litems_c h, intsOf_map]
theorem sorted_lst {ns : List Int} {S : AH} : sortedF [.p (.lst (ns.map PV.int))] S = some ((sortI ns).map PV.int) := by
  unfold sortedF
  simp only [litems_lst, intsOf_map]
end
end DL
namespace DL
noncomputable section
open PySem PySem.Spec PyProof.Rows L2

/-! ### a call of a value that is a def -/
abbrev FTab := List (Str × (List DV → AH → Res DV))
def dCallV (tab : FTab) (fa : Sig → AH → Res DV) (fs : Sig → AH → Res (List DV)) : Sig → AH → Res DV := fun δ S => (fa δ S).bind fun d S => match d with
  | .p (.glob n) => match tab.lookup n with
    | some F => (fs δ S).bind fun ds S => F ds S
    | none => .bad
  | _ => .bad
inductive TabOk (X : Cx) : FTab → Prop
  | nil : TabOk X []
  | cons {n : Str} {F : List DV → AH → Res DV} {tab : FTab} {k : Nat} {f : Addr} {fd : FuncData} {ps : List Str} : FnOk X.prog X.w X.K X.mg X.base (L2.CX X.prog X.w) k f fd ps (spD ⟨X.K, X.mg⟩ F) → Room k X.A → X.mg n = some (.ref f) → PySem.W.keepIn X.K (.ref f) = true → Binds X.K fd ps [] → TabOk X tab → TabOk X ((n, F) :: tab)
theorem TabOk.at {X : Cx} {n : Str} {F : List DV → AH → Res DV} : ∀ {tab : FTab}, TabOk X tab → tab.lookup n = some F → ∃ k f fd ps, FnOk X.prog X.w X.K X.mg X.base (L2.CX X.prog X.w) k f fd ps (spD ⟨X.K, X.mg⟩ F) ∧ Room k X.A ∧ X.mg n = some (.ref f) ∧ PySem.W.keepIn X.K (.ref f) = true ∧ Binds X.K fd ps []
  | _, .nil, e => by cases e
  | _, .cons (n := m) (F := G) a b c d h t, e => by
    rw [List.lookup_cons] at e
    by_cases z : n = m
    · subst z
      simp at e
      subst e
      exact ⟨_, _, _, _, a, b, c, d, h⟩
    · have z' : (n == m) = false := by simpa using z
      rw [z'] at e
      exact TabOk.at t e
section
variable {X : Cx} {E : L2.St → XK} {fn a : Expr} {es : List Expr} {pos : Pos} {fa : Sig → AH → Res DV} {fs : Sig → AH → Res (List DV)}
/-- the callee is any expression -/
theorem pe_callX {CX : CXT} {tf : TE} {t : TA} (hf : PE X fn tf) (ha : PA X (a :: es) t) (hx : ∀ σ, PassesAt CX X σ (E σ))
    (hc : eval (.Call fn (a :: es) [] pos) X.env = (eval fn X.env >>= fun v => callWith pos v [] (backTo pos (starEach (a :: es) X.env)) (backToKw pos (keywordEach [] X.env)))) (he : starEach (a :: es) X.env = (false, eval a X.env) :: starEach es X.env) (hpl : (backTo pos (starEach es X.env)).any (·.1) = false) :
    PE X (.Call fn (a :: es) [] pos) (fun σ H Q => tf σ H fun v H1 => ∃ k f fd ps sp, FnOk X.prog X.w X.K X.mg X.base CX k f fd ps sp ∧ Room k X.A ∧ PySem.W.keepIn X.K (.ref f) = true ∧ Binds X.K fd ps [] ∧ v = .ref f ∧ t σ H1 fun vs H2 => sp vs H2 Q (E σ)) := by
  refine ⟨fun pins s σ H Q I h => ?_⟩
  rw [hc]
  refine wpAny_bind (thn (hf.run pins s σ H _ I h) fun u s1 ⟨v, H1, I1, r1, k, f, fd, ps, sp, F, hr, hk, hb, ev, ht⟩ => ?_)
  subst ev
  obtain rfl : u = Value.ref f := r1
  refine PySem.W.callWith_K (h₀ := X.base) I1.ok.mod.kin hk (thn (ha.run pos pins s1 σ _ _ I1 ht) fun us s2 ⟨vs, H2, I2, r, q⟩ => ⟨I2.kIn, ?_⟩) he hpl
  exact run_fnS F hr hb (hx σ) I2 r q
theorem de_callV {tab : FTab} (g : Gd X E) (T : TabOk X tab) (hf : DE X E fn fa) (ha : DA X E (a :: es) fs)
    (hc : eval (.Call fn (a :: es) [] pos) X.env = (eval fn X.env >>= fun v => callWith pos v [] (backTo pos (starEach (a :: es) X.env)) (backToKw pos (keywordEach [] X.env))) := by rfl) (he : starEach (a :: es) X.env = (false, eval a X.env) :: starEach es X.env := by rfl) (hpl : (backTo pos (starEach es X.env)).any (·.1) = false := by rfl) :
    DE X E (.Call fn (a :: es) [] pos) (dCallV tab fa fs) := (pe_callX hf ha (fun σ => g.pass σ) hc he hpl).imp fun σ H Q ⟨as, δ, S, sr, er, w⟩ =>
  ⟨as, δ, S, sr, er, w.bind.mono fun _ _ _ _ v _ _ _ _ ⟨as1, S1, d1, _, x1, s1, r1, w1⟩ => by
    cases d1 with
    | c n => exact w1.elim
    | p x =>
      cases x with
      | glob n =>
        dsimp only at w1
        cases e : tab.lookup n with
        | none => rw [e] at w1; exact w1.elim
        | some F =>
          rw [e] at w1
          obtain ⟨k, f, fd, ps, h1, h2, h3, h4, h5⟩ := T.at e
          have ev : v = .ref f := by
            cases r1 with
            | glob m r =>
              cases h3.symm.trans (show X.mg n = _ from m)
              cases v <;> simp [L2.RelV] at r
              rw [r]
          exact ⟨k, f, fd, ps, _, h1, h2, h4, h5, ev, as1, δ, S1, s1, er.mono x1.w, w1.bind.mono fun _ _ _ _ _ _ _ _ _ ⟨as2, S2, ds, _, x2, s2, r2, w2⟩ => ⟨as2, ds, S2, s2, r2, w2⟩⟩
      | _ => exact w1.elim⟩
end
@[simp] theorem ev_callV {tab : FTab} {fa : Sig → AH → Res DV} {fs : Sig → AH → Res (List DV)} {δ : Sig} {S S1 : AH} {n : Str} {F : List DV → AH → Res DV} (h : fa δ S = .ok (.p (.glob n)) S1) (e : tab.lookup n = some F) : dCallV tab fa fs δ S = (fs δ S1).bind fun ds S => F ds S := by
  unfold dCallV
  rw [h]
  simp [Res.bind, e]
end
end DL
namespace DL
noncomputable section
open PySem PySem.Spec PyProof.Rows L2

/-! ### a tuple taken once -/
theorem tup_once (l : Addr) (its : Array Value) (n : Nat) (dd : Option Addr) (sl : Array (Option Value)) (u : Tok) :
    Meets (Builtin.«tuple.__mul__» ⟨[.ref l, .int 1 u], []⟩) (fun _ R s => s.heap.get? l = some { cls := .type "tuple", dict := dd, data := .seq its n, slots := sl } ∧ R (.ok (.ret (Value.ref l))) s) :=
  .of_wp fun prog w A R s ⟨h1, h2⟩ => by
    obtain ⟨hp, g, d, tk, os⟩ := s
    have f1 := AutoSeq1.idx_int
    have c1 : (its.isEmpty || (1 : Int) == 1) = true := by simp
    wp_walk using wpAny_loadPart' h1
    repeat (first
      | (refine wpAny_ite_false (by decide) ?_; wp_walk using wpAny_loadPart' h1)
      | (refine wpAny_ite_true (by rw [c1]) ?_; wp_walk using wpAny_loadPart' h1))
    exact ⟨_, rfl, h2⟩
theorem tup_never (l : Addr) (its : Array Value) (n : Nat) (dd : Option Addr) (sl : Array (Option Value)) (u : Tok) (h0 : its.isEmpty = false) :
    Meets (Builtin.«tuple.__mul__» ⟨[.ref l, .int 0 u], []⟩) (fun _ R s => s.heap.get? l = some { cls := .type "tuple", dict := dd, data := .seq its n, slots := sl } ∧
      R (.ok (.ret (Value.ref s.heap.objs.size))) { s with heap := s.heap.push { cls := Value.type "tuple", data := Data.seq #[] }, toks := s.toks }) :=
  .of_wp fun prog w A R s ⟨h1, h2⟩ => by
    obtain ⟨hp, g, d, tk, os⟩ := s
    have f1 := AutoSeq1.idx_int
    have c1 : (its.isEmpty || (0 : Int) == 1) = false := by rw [h0]; rfl
    wp_walk using wpAny_loadPart' h1
    repeat (first
      | (refine wpAny_ite_false (by decide) ?_; wp_walk using wpAny_loadPart' h1)
      | (refine wpAny_ite_false (by rw [c1]; decide) ?_; wp_walk using wpAny_loadPart' h1)
      | (refine wpAny_ite_true (by decide) ?_; wp_walk using wpAny_loadPart' h1)
      | (refine wpAny_ite_true (by simp) ?_; wp_walk using wpAny_loadPart' h1))
    exact ⟨_, rfl, h2⟩
section
variable {X : Cx}
theorem op_once : OpR X (binaryOp .Mult) (fun x y H Q => ∃ l xs, x = V.ref l ∧ y = V.int 1 ∧ SqT X.K H l xs ∧ Q (V.ref l) H) := by
  intro pins s σ H x y v u Q I rx ry ⟨l, xs, ex, ey, hT, q⟩
  subst ex ey
  cases rx
  obtain ⟨t, rfl⟩ := ry
  obtain ⟨its, r, ⟨⟨cls, dd, data, sl⟩, ho, hc, n, hd⟩, hs⟩ := I.tuple hT
  simp only at hc hd
  subst hc hd
  exact wpAny_binaryOp_repeat_ref (T := "tuple") (U := "int") (by decide) ⟨_, ho, rfl⟩ (fun s' => typeIs_int s' 1 t) noFill_tuple_mul F.fills_int_mul F.slot_int_rmul repeat_tuple F.slot_int_index.lookup
    (call_meets F.slot_int_rmul (typeIs_int s 1 t) F.entry_int_rmul (F.args_int_rmul_2 _ _) (int_rmul_tuple 1 t l its.toArray n dd sl)
      ⟨ho, rfl, ⟨_, ho, rfl⟩, call_meets F.slot_tuple_mul ⟨_, ho, rfl⟩ F.entry_tuple_mul (F.args_tuple_mul_2 _ _) (tup_once l its.toArray n dd sl t) ⟨ho, .ref l, H, I, rfl, q⟩⟩)
theorem op_never : OpR X (binaryOp .Mult) (fun x y H Q => ∃ l xs, x = V.ref l ∧ y = V.int 0 ∧ SqT X.K H l xs ∧ xs ≠ [] ∧ NewT H Q []) := by
  intro pins s σ H x y v u Q I rx ry ⟨l, xs, ex, ey, hT, hne, q⟩
  subst ex ey
  cases rx
  obtain ⟨t, rfl⟩ := ry
  obtain ⟨its, r, ⟨⟨cls, dd, data, sl⟩, ho, hc, n, hd⟩, hs⟩ := I.tuple hT
  simp only at hc hd
  subst hc hd
  have hi : its.toArray.isEmpty = false := by
    cases r with
    | nil => exact absurd rfl hne
    | cons _ _ => rfl
  exact wpAny_binaryOp_repeat_ref (T := "tuple") (U := "int") (by decide) ⟨_, ho, rfl⟩ (fun s' => typeIs_int s' 0 t) noFill_tuple_mul F.fills_int_mul F.slot_int_rmul repeat_tuple F.slot_int_index.lookup
    (call_meets F.slot_int_rmul (typeIs_int s 0 t) F.entry_int_rmul (F.args_int_rmul_2 _ _) (int_rmul_tuple 0 t l its.toArray n dd sl)
      ⟨ho, rfl, ⟨_, ho, rfl⟩, call_meets F.slot_tuple_mul ⟨_, ho, rfl⟩ F.entry_tuple_mul (F.args_tuple_mul_2 _ _) (tup_never l its.toArray n dd sl t hi)
        ⟨ho, lay_tup (its := []) I (by simp) .nil q⟩⟩)
/-- a product, a tuple taken once or never too -/
def mulO1 : Op2 := fun a b S => match a, b with
  | .p (.tup xs), .p (.int k) => if k = 1 then some (.p (.tup xs), S) else if k = 0 ∧ xs ≠ [] then some (.p (.tup []), S) else mulO a b S
  | .p (.lst xs), .p (.int k) => if 0 ≤ k ∧ k ≤ 1000 ∧ xs.length ≤ 1000 then some (.p (.lst (List.replicate k.toNat xs).flatten), S) else none
  | _, _ => mulO a b S
theorem ow_mul1 : OpR X (binaryOp .Mult) (rO (wd X) mulO1) := by
  intro pins s σ H x y v u Q I rx ry h
  obtain ⟨as, S, d1, d2, sr, r1, r2, w⟩ := h
  unfold mulO1 at w
  split at w
  · split at w
    · rename_i z
      subst z
      cases r2
      cases r1 with
      | tup h1 t1 => exact op_once pins s σ H _ _ v u Q I rx ry ⟨_, _, rfl, rfl, h1.sq, w.here sr (.tup h1 t1)⟩
    split at w
    · rename_i z
      obtain ⟨rfl, z⟩ := z
      cases r2
      cases r1 with
      | tup h1 t1 =>
        refine op_never pins s σ H _ _ v u Q I rx ry ⟨_, _, rfl, rfl, h1.sq, fun e => ?_, w.tup sr (by simp) .nil⟩
        subst e
        cases t1
        exact z rfl
    · exact ow_mul pins s σ H x y v u Q I rx ry ⟨as, S, _, _, sr, r1, r2, w⟩
  · split at w
    · rename_i z
      obtain ⟨z1, z2, z3⟩ := z
      cases r2
      cases r1 with
      | lst h1 t1 =>
        have hl := t1.length
        refine op_rep pins s σ H _ _ v u Q I rx ry ⟨_, _, _, rfl, rfl, h1.2.1, by omega, by omega, ?_, fun p n => w.lst sr ?_ (t1.rep _) n⟩
        · rw [sizeLine_eq]
          refine Nat.le_trans (m := 1000 * 1000) (Nat.mul_le_mul ?_ ?_) (by decide)
          · omega
          · omega
        rw [PyProof.Rows.lm_len_rep_flat, sizeLine_eq]
        refine Nat.le_trans (m := 1000 * 1000) (Nat.mul_le_mul ?_ ?_) (by decide)
        · omega
        · omega
    · exact w.elim
  · exact ow_mul pins s σ H x y v u Q I rx ry ⟨as, S, _, _, sr, r1, r2, w⟩
end
theorem mulO1_int {i j : Int} {S : AH} (h : mulOk i j) : mulO1 (.p (.int i)) (.p (.int j)) S = some (.p (.int (i * j)), S) := mulO_int h
theorem mulO1_tup {xs : List PV} {k : Int} {S : AH} (h : xs ≠ [] ∧ 0 ≤ k ∧ k ≤ 1000 ∧ xs.length ≤ 1000) : mulO1 (.p (.tup xs)) (.p (.int k)) S = some (.p (.tup (List.replicate k.toNat xs).flatten), S) := by
  show (if k = 1 then _ else if _ then _ else _) = _
  split
  · rename_i z
    subst z
    simp
  · split
    · rename_i z
      obtain ⟨rfl, _⟩ := z
      simp
    · rename_i z1 z2
      exact mulO_tup ⟨h.1, by have : k ≠ 0 := fun e => z2 ⟨e, h.1⟩; omega, h.2.2⟩
end
end DL
namespace DL
noncomputable section
open PySem PySem.Spec PyProof.Rows L2

/-! ### an own exception whose __init__ says super().__init__(x); self.x = x -/
/-- the body of that __init__ -/
def InitBody (x : Str) (b : List Stmt) : Prop := ∃ (p0 p1 p2 p3 p4 p5 p6 p7 p8 p9 : Pos), (p2.endLine == p4.line) = true ∧ b = [.Expr (.Call (.Attribute (.Call (.Name "super" p0) [] [] p1) "__init__" p2) [.Name x p3] [] p4) p5, .Assign [.Attribute (.Name "self" p6) x p7] (.Name x p8) p9]
structure SupK (P : Program) (K : PySem.W.Frag) (x : Str) (C fI cda cc : Addr) (fd : FuncData) : Prop where
  fn : ∃ name qual params body scope dV kV doc pm an ct oc od osl, fd = PySem.W.ksFn name qual params body scope dV kV doc pm an (.ref cda) ct cc ∧ K.lookup fI = some ⟨oc, od, .func fd, osl⟩ ∧ InitBody x body ∧ PySem.W.codeIn K (.ref cda) qual = true ∧
    scope.names.lookup ("super" : Str) = some .globalImplicit ∧ scope.names.lookup ("__class__" : Str) = some .free ∧ scope.names.lookup ("self" : Str) = some .local ∧ scope.names.lookup x = some .local ∧ scope.kind = .function ∧ (∀ y ∈ scope.names, y.2 ≠ .cell) ∧ scope.isCoroutine = false ∧ scope.isGenerator = false ∧
    ∃ ar, (params.posonlyargs ++ params.args).head? = some ar ∧ ar.arg = "self"
  code : ∃ cl d vs sl, K.lookup cda = some ⟨cl, d, .fields vs, sl⟩ ∧ ∃ file t, vs[2]? = some (.str file t) ∧ ((P.main.file : Str) == file) = true
  cell : ∃ cl d sl, K.lookup cc = some ⟨cl, d, .cell (some (.ref C)), sl⟩
  cls : OexC K C
  mro : PySem.W.mroIn K C (.ref C) = some true
  sup : PySem.W.ks_superIn K C C "__init__" = some (some (.builtin "ValueError.__init__"))
  ve : PySem.W.subIn K (.ref C) (.type "ValueError") = some true
  any : PySem.W.nsIn K cStatics "thirdparty.any" = some none
  fld : PySem.W.findIn K (.ref C) x = some none
  nosup : PySem.W.nsIn K mainGlobals "super" = some none
  top : (P.main.scope.names.lookup ("super" : Str)).isSome = false
  xs : x ≠ ("self" : Str)
  ini : PySem.W.excInitIn K C [.type "ValueError", .type "Exception", .type "BaseException", .type "object"] "ValueError.__new__" = true
  xd : (x == ("__debug__" : Str)) = false
theorem call_eq {o : Expr} {m : Str} {a : Expr} {p2 p4 : Pos} {env : Env} (hp : (p2.endLine == p4.line) = true) (hs : starEach [a] env = [(false, eval a env)]) : eval (.Call (.Attribute o m p2) [a] [] p4) env = (do
    let ov ← attributeBase o m env (eval o env)
    standAt p2.atName
    let (f, first) ← holding [ov] (getMethod ov m (do return (← importBound o env).getD true))
    callWith p4 f first (backTo p4 (starEach [a] env)) []) := by
  have e1 : eval (.Call (.Attribute o m p2) [a] [] p4) env = (attributeBase o m env (eval o env) >>= fun ov => standAt p2.atName >>= fun _ => methodCall o m p2 p4 env ov 1 (backTo p4 (starEach [a] env)) []) := rfl
  have e2 : methodCallForm 1 (backTo p4 (starEach [a] env)) [] = true := by rw [hs]; rfl
  have e3 : methodCallPos true o env p2 p4 = pure p4 := by
    unfold methodCallPos
    rw [hp]
    rfl
  rw [e1]
  unfold methodCall
  rw [e2, e3]
  rfl
section
variable {P : Program} {w : World} {K : PySem.W.Frag} {A : Around} {hp : Heap} {g : Array GenState} {d : Drawn} {t : Nat} {os : OsState} {mg mb : Str → Option Value} {x : Str} {C fI cda cc a t0 : Addr} {fd : FuncData} {u : Value} {R : Result → Shared → Prop}
theorem sup_run (T : SupK P K x C fI cda cc fd) (hr : A.depth < recursionLimit) (X : K.In hp) (na : K.lookup a = none) (G : hp.Ns mainGlobals mg) (B : hp.Ns builtinsNs mb) (hb : mb "super" = bootBuiltins "super") (lim : hp.NoLimit)
    {args : Args} (hbind : BindsTo ⟨hp, g, d, t, os⟩ fd args [("self", .ref a), (x, u)]) (ha : hp.get? a = some ({ cls := .ref C, dict := none, data := .fields #[.ref t0, .none, .none, .none, .bool false, .none] } : Obj))
    (hq : ∀ h' tk' dx t1, (∀ b o, b ≠ a → hp.get? b = some o → h'.get? b = some o) → hp.objs.size ≤ dx → h'.get? a = some ({ cls := .ref C, dict := some dx, data := .fields #[.ref t1, .none, .none, .none, .bool false, .none] } : Obj) →
      h'.Ns1 dx (fun y => if y = x then some u else none) → R (.ok (.ret .none)) ⟨h', g, d, tk', os⟩) :
    codeAny (model P w) A (.call (.ref fI) args) R ⟨hp, g, d, t, os⟩ := by
  obtain ⟨name, qual, params, body, scope, dV, kV, doc, pm, an, ct, oc, od, osl, efd, hlk, hbody, hcd, sc1, sc2, sc3, sc4, sck, scc, sco, scg, ar, har, eself⟩ := T.fn
  obtain ⟨ccl, cdd, vs, ccs, hcode, file, tf, hvs, hfile⟩ := T.code
  obtain ⟨cl, cld, csl, hcell⟩ := T.cell
  obtain ⟨p0, p1, p2, p3, p4, p5, p6, p7, p8, p9, hps, eb⟩ := hbody
  have ho := X _ _ hlk
  subst efd
  refine PySem.ks_codeAny_call_defAt (body := body) (binds := [("self", .ref a), (x, u)]) hr ho rfl lim (PySem.W.codeRec_of X hcd) rfl hbind scc (fun y hy => ?_) (fun h₁ hns hk => ?_) sco scg sck
  · simp only [List.mem_cons, List.not_mem_nil, or_false] at hy
    rcases hy with rfl | rfl
    · exact sc3
    · exact sc4
  have X1 : K.In h₁ := X.keeps hk
  have hL : hp.objs.size ≤ hp.objs.size := Nat.le_refl _
  obtain ⟨oL, _, _, hoL, _⟩ := id hns
  subst eb
  have ha1 := hk _ _ ha
  obtain ⟨nm, q, N, bs, bm, sn, sub, ab, col, dd, k0, k1, k2, k3, k5, hC, hbm⟩ := T.cls.cls
  have hcl : PySem.W.clsIn K C = some { name := nm, bases := bs, mro := .ref C :: bm, ns := N, qualname := q, hasDict := true, slotNames := sn, subclasses := sub, abstract := ab, collection := col, hasDel := false } := by
    unfold PySem.W.clsIn
    rw [hC] <;> rfl
  refine PySem.ks_wpAt_execs_cons (PySem.ks_wpAt_Expr_any (PySem.ks_wpAt_MethodCall ?_ (call_eq hps rfl)) (by unfold interactive; show (scope.kind == .module && _) = false; rw [sck]; rfl))
  refine PySem.ks_wpAt_super_base (f := fI) (cc := cda) sc1 sc2 rfl rfl (X1 _ _ hlk) rfl har rfl (X1 _ _ hcode) rfl hvs hfile T.top ?_
  refine PySem.W.ks_loadName_global sck sc1 (PySem.Calls.loadGlobal_builtin (G.keeps hk) (PySem.W.mg_none_of X G T.nosup) (B.keeps hk) (hb.trans (by kernel_rfl)) ⟨rfl, ?_⟩)
  refine wpAny_loadName_free sck sc2 rfl ⟨_, X1 _ _ hcell, rfl⟩ ?_
  have l1 : ([(("self" : Str), Value.ref a), (x, u)].reverse.lookup ar.arg) = some (.ref a) := by
    rw [eself]
    have : (("self" : Str) == x) = false := by simpa using fun e => T.xs e.symm
    simp [List.lookup, this]
  have l2 : ([(("self" : Str), Value.ref a), (x, u)].reverse.lookup x) = some u := by simp [List.lookup]
  refine wpAny_loadName_local sck (by rw [eself]; exact sc3) hns l1 ?_
  refine PySem.ks_wpAny_isType_cls (X1 _ _ hC) rfl ⟨rfl, ?_⟩
  refine PySem.ks_wpAny_call_super (X1 _ _ hC) rfl ha1 rfl (fun c e => by cases e) (PySem.W.looks_mroIn X1 T.mro) (fun h2 e2 k2' => ?_)
  have X2 : K.In h2 := X1.keeps k2'
  have sup := T.sup
  unfold PySem.W.ks_superIn at sup
  rw [hcl] at sup
  have sup : PySem.W.alongIn K "__init__" (((Value.ref C :: bm).dropWhile (· != .ref C)).drop 1) = some (some (.builtin "ValueError.__init__")) := sup
  have hma : h2.get? a = some ({ cls := .ref C, dict := none, data := .fields #[.ref t0, .none, .none, .none, .bool false, .none] } : Obj) := k2' _ _ ha1
  have I2 : PySem.W.InstAt h2 a { cls := .ref C, dict := none, data := .fields #[.ref t0, .none, .none, .none, .bool false, .none] } C none := ⟨hma, rfl, rfl, trivial⟩
  have aC : a ≠ C := fun e => by
    rw [e, hC] at na
    cases na
  refine PySem.W.kxs_getMethod PySem.W.kxs_ValueError e2 (PySem.W.looks_opaque X2 T.any) (l₀ := .ref C :: bm) ((PySem.W.looks_clsIn X2 hcl).andThen .now) rfl X2 sup (I2.type.andThen (PySem.W.looks_subIn X2 T.ve)) aC rfl ?_
  obtain ⟨h3, e3⟩ : ∃ h3, h3 = h2.push (PySem.W.kxs_mw "ValueError.__init__" a) := ⟨_, rfl⟩
  have k3 : ∀ b o, h2.get? b = some o → h3.get? b = some o := fun b o e => by rw [e3]; exact Heap.get?_push_of_some _ e
  have up : ∀ b o, hp.get? b = some o → h3.get? b = some o := fun b o e => k3 _ _ (k2' _ _ (hk _ _ e))
  have m3 : h3.get? h2.objs.size = some (PySem.W.kxs_mw "ValueError.__init__" a) := by rw [e3]; exact Heap.get?_push_at rfl rfl
  have lt2 : hp.objs.size < h2.objs.size := Heap.lt_size (k2' _ _ hoL)
  have alt : a < hp.objs.size := Heap.lt_size ha
  rw [← e3]
  have F3 : Fr (PySem.W.hideAll hp [a]) hp.objs.size h3 (fun y => [(("self" : Str), Value.ref a), (x, u)].reverse.lookup y) := ⟨(hns.keeps k2').keeps k3, fun b o e => up _ _ (PySem.W.of_hideAll _ e), Nat.le_of_eq (PySem.W.hideAll_size _ _)⟩
  have N3 : News (PySem.W.hideAll hp [a]) hp.objs.size h3 [(h2.objs.size, PySem.W.kxs_mw "ValueError.__init__" a), (a, PySem.W.excObj C t0 none .none)] := fun q hq => by
    simp only [List.mem_cons, List.not_mem_nil, or_false] at hq
    rcases hq with rfl | rfl
    · refine ⟨m3, Nat.ne_of_gt lt2, ?_⟩
      cases z : (PySem.W.hideAll hp [a]).get? h2.objs.size with
      | none => rfl
      | some o => exact absurd (Heap.lt_size (PySem.W.of_hideAll _ z)) (Nat.not_lt.mpr (Nat.le_of_lt lt2))
    · exact ⟨k3 _ _ hma, Nat.ne_of_lt alt, PySem.W.hideAll_none _ List.mem_cons_self⟩
  have X0 : K.In (PySem.W.hideAll hp [a]) := fun b o e => PySem.W.hideAll_get _ (X _ _ e) (fun z => by
    rcases List.mem_singleton.mp z with rfl
    rw [na] at e
    cases e)
  have xns : h3.Ns hp.objs.size (fun y => [(("self" : Str), Value.ref a), (x, u)].reverse.lookup y) := F3.ns
  refine PySem.W.kxs_callWith1 N3 List.mem_cons_self ?_ rfl rfl
  show wpAny _ _ (spliced ((false, eval (.Name x p3) _) :: [])) _ _ _
  refine Calls.spliced_cons (wpAny_Name (wpAny_loadName_local sck sc4 xns l2 (Calls.spliced_nil ?_)) T.xd)
  refine ⟨PySem.W.kxs_at N3 List.mem_cons_self, ?_⟩
  refine PySem.W.kxs_call F3 X0 N3 F.excBase_ValueError T.ini List.mem_cons_self (.tail (Nat.ne_of_gt (Nat.lt_trans alt lt2)) (.head (by simp))) (by show 1 ≤ sizeLine; rw [sizeLine_eq]; omega) (fun t4 h4 F4 N4 lt4 => ?_)
  have X4 : K.In h4 := X0.keeps F4.keep
  have hx4 : h4.get? a = some (PySem.W.excObj C t4 none .none) := (N4 (a, _) (by simp)).1
  have hns4 : h4.Ns hp.objs.size (fun y => [(("self" : Str), Value.ref a), (x, u)].reverse.lookup y) := F4.ns
  refine PySem.ks_wpAt_execs_cons (wpAt_of_wpAny (plainObj_wpAny_Assign_Attribute (wpAny_Name (wpAny_loadName_local sck sc4 hns4 l2 ?_) T.xd) rfl))
  have l1' : ([(("self" : Str), Value.ref a), (x, u)].reverse.lookup ("self" : Str)) = some (.ref a) := by rw [eself] at l1; exact l1
  refine wpAny_Name (wpAny_loadName_local sck sc3 hns4 l1' ?_) (by decide)
  refine PySem.W.set_plain X4 (ox := PySem.W.excObj C t4 none .none) (od := none) ⟨hx4, rfl, rfl, trivial⟩ T.cls.sa ?_
  refine PySem.HandSPX.exc_osa X4 hx4 hcl (show PySem.HandSPX.refsVE (.ref C :: bm) = true from hbm) rfl T.fld (fun h5 tk5 dx k5 dn dne hx5 hn5 => ?_)
  refine wpAt_of_wpAny (wpAny_pure ?_)
  obtain ⟨oL4, _, _, hoL4, _⟩ := id hns4
  exact hq h5 _ dx t4 (fun b o hb e => k5 b o hb (F4.keep _ _ (PySem.W.hideAll_get _ e (fun z => hb (List.mem_singleton.mp z))))) (Nat.le_trans (Nat.le_of_lt (Heap.lt_size hoL4)) dn) hx5 hn5
end
/-- what that __init__ promises -/
def spI (x : Str) (C : Addr) : Sp := fun vs H Q _ => ∃ (a : Addr) (y : V), vs = [.ref a, y] ∧ H a = some (exo a C none) ∧ ∀ dx, H dx = none → dx ≠ a → Q .non (upd (upd H dx (exd dx [(x, y)])) a (exo a C (some dx)))
theorem sup_un {fs : List Addr} {H : Hp} {h h' : Heap} {a C dx : Addr} {x : Str} {y : V} {o : Obj} (e : H a = some (exo a C none)) (k : ∀ b o, b ≠ a → h.get? b = some o → h'.get? b = some o) (dn : h.objs.size ≤ dx) (n : H dx = none) (ho : h'.get? a = some o) :
    Un fs [] H (upd (upd H dx (exd dx [(x, y)])) a (exo a C (some dx))) h h' := by
  have na : ∀ {b}, H b = none → b ≠ a := fun m z => by rw [z, e] at m; cases m
  have old : ∀ {b : Addr} {z : HO}, H b = some z → z ≠ exo a C none → upd (upd H dx (exd dx [(x, y)])) a (exo a C (some dx)) b = some z := fun {b z} q d => by
    have h1 : b ≠ a := fun w => by rw [w, e] at q; cases q; exact d rfl
    have h2 : b ≠ dx := fun w => by rw [w, n] at q; cases q
    rw [upd_ne h1, upd_ne h2, q]
  exact ⟨fun b o q m _ _ => k b o (na m) q, fun b o q m _ _ => ⟨o.slots, k b o (na m) q⟩,
    fun b o q m _ => by
      have h2 : b ≠ dx := fun w => absurd (Heap.lt_size q) (by rw [w]; exact Nat.not_lt.mpr dn)
      rw [upd_ne (na m), upd_ne h2, m],
    fun b o q _ => by
      by_cases z : b = a
      · subst z
        exact ⟨_, ho⟩
      · exact ⟨o, k b o z q⟩,
    fun b xs q => old q fun z => exo_tup z.symm, fun b o u q => old q fun z => exo_frz z.symm, fun b ps q => ⟨#[], by rw [old q fun z => exo_tbl z.symm]; simp⟩⟩
theorem sup_hok {P : Program} {w : World} {H : Hp} {h h' : Heap} {a C dx t1 : Addr} {x : Str} {y : V} {u : Value} (ok : HOk P w H h) (e : H a = some (exo a C none)) (k : ∀ b o, b ≠ a → h.get? b = some o → h'.get? b = some o) (n : H dx = none)
    (ho : h'.get? a = some ({ cls := .ref C, dict := some dx, data := .fields #[.ref t1, .none, .none, .none, .bool false, .none] } : Obj)) (hn : h'.Ns1 dx (fun z => if z = x then some u else none)) (ry : L2.RelV y u) :
    HOk P w (upd (upd H dx (exd dx [(x, y)])) a (exo a C (some dx))) h' := by
  intro b o q
  by_cases h1 : b = a
  · subst h1
    rw [upd_same] at q
    cases q
    exact exo_ok ho
  rw [upd_ne h1] at q
  by_cases h2 : b = dx
  · subst h2
    rw [upd_same] at q
    cases q
    exact exd_ok hn (relO_put (fs := []) ry fun _ => trivial)
  rw [upd_ne h2] at q
  have old : ∀ {c : Addr} {z : HO}, H c = some z → z ≠ exo a C none → c ≠ a ∧ upd (upd H dx (exd dx [(x, y)])) a (exo a C (some dx)) c = some z := fun {c z} q d => by
    have g1 : c ≠ a := fun w => by rw [w, e] at q; cases q; exact d rfl
    have g2 : c ≠ dx := fun w => by rw [w, n] at q; cases q
    exact ⟨g1, by rw [upd_ne g1, upd_ne g2, q]⟩
  refine (ok b o q).stay (fun c v hc z => k c v ?_ z) (fun c hc => (old hc fun z => exo_own z.symm).2) (fun c xs hc => (old hc fun z => exo_tup z.symm).2)
  rcases hc with hc | hc
  · rw [hc]; exact h1
  · exact (old hc fun z => exo_own z.symm).1
section
variable {P : Program} {w : World} {K : PySem.W.Frag} {mg : Str → Option Value} {base : Heap} {x : Str} {C fI cda cc : Addr} {fd : FuncData} {CX : CXT}
theorem sup_ok (T : SupK P K x C fI cda cc fd) : FnOk P w K mg base CX 1 fI fd ["self", x] (spI x C) := by
  refine ⟨fun vs H Q E ⟨a, y, e, _⟩ => by rw [e]; rfl, fun A outer s H args us vs Q E hr e0 hb hv hsp => ?_⟩
  obtain ⟨a, y, rfl, ea, q⟩ := hsp
  cases hv with
  | cons r1 hv =>
  cases hv with
  | cons r2 hv =>
  cases hv
  rename_i u1 u
  obtain rfl : u1 = Value.ref a := r1
  have up := fun b o e => (e0.bs b o e).1
  have X : K.In s.heap := e0.mod.kin.keeps up
  have na : K.lookup a = none := by
    cases z : K.lookup a with
    | none => rfl
    | some o =>
      have := (e0.bs _ _ (e0.mod.kin _ _ z)).2
      rw [ea] at this
      cases this
  obtain ⟨mb, B, hmb⟩ := e0.mod.blt
  obtain ⟨t0, ha⟩ := exo_at e0.hok ea
  obtain ⟨hp, g, d, t, os⟩ := s
  refine sup_run T hr.depth X na (e0.mod.glob.keeps up) (B.keeps up) (hmb _ (by decide)) (e0.mod.nolimit.keeps up) hb ha fun h' tk' dx t1 k dn hx hn => ?_
  have nd := e0.hok.fresh dn
  have ne : dx ≠ a := fun z => absurd (Heap.lt_size ha) (by rw [← z]; exact Nat.not_lt.mpr dn)
  exact ⟨.non, _, rfl, e0.bare, sup_un ea k dn nd hx, sup_hok e0.hok ea k nd hx hn r2, rfl, q dx nd ne⟩
end
end
end DL
namespace DL
noncomputable section
open PySem PySem.Spec PyProof.Rows L2

/-! ### raise C(e), C's __init__ as in D19 -/
def dRaiseF (c x : Str) (fa : Sig → AH → Res DV) : Sig → AH → Out := fun δ S => (fa δ S).out δ fun d S1 => match d with
  | .p y => .exc c [(x, y)] δ S1
  | .c _ => .bad
section
variable {X : Cx} {E : L2.St → XK} {e : Expr} {pos p2 pos' : Pos} {c x : Str} {C fI cda cc : Addr} {fd : FuncData} {fa : Sig → AH → Res DV}
theorem ds_raiseF (g : Gd X E) (T : SupK X.prog X.K x C fI cda cc fd) (iC : PySem.W.findIn X.K (.ref C) "__init__" = some (some (.ref fI))) (tI : PySem.W.typeIn X.K (.ref fI) = some (.type "function")) (hr : Room 2 X.A) (hb : Binds X.K fd ["self", x] []) (hg : Gl X c) (hm : X.mg c = some (.ref C))
    (he : DE X E e fa) (hdb : (c == ("__debug__" : Str)) = false := by decide) (hs : starEach [e] X.env = [(false, eval e X.env)] := by rfl) : DS X E (.Raise (some (.Call (.Name c p2) [e] [] pos')) none pos) (dRaiseF c x fa) := by
  have mk := pmk_oex (CX := fun _ _ _ _ _ _ => False) (p := p2) (pos := pos') T.cls iC tI (sup_ok (P := X.prog) (w := X.w) (mg := X.mg) (base := X.base) T) hr hb .nil (fun _ _ _ _ _ _ _ z => z.elim) hg hm (da_cons he da_nil hs) hdb hs rfl
  refine (ps_raise g.calm g.tk mk).imp fun D σ H ⟨as, δ, S, sr, er, w⟩ => ?_
  refine ⟨as, δ, S, sr, er, ?_⟩
  unfold dRaiseF at w
  have ed : dCons fa dNil δ S = (fa δ S).bind fun d S1 => .ok [d] S1 := rfl
  rw [ed]
  cases ef : fa δ S with
  | bad => rw [ef] at w; exact w.elim
  | exc n p S1 => rw [ef] at w; exact fun as' H' cls dd x1 s1 r1 => w as' H' σ cls dd x1 s1 (er.mono x1.w) r1
  | ok d S1 =>
    rw [ef] at w
    intro as' H' vs x1 s1 r1
    cases r1 with
    | cons r r0 =>
    cases r0
    cases d with
    | c n => exact w.elim
    | p y =>
    rename_i v
    refine ⟨by simp, fun a na => ⟨a, v, rfl, upd_same, fun dx ndx ne => ⟨rfl, dx, [(x, v)], upd_same, by rw [upd_ne ne, upd_same], by rw [upd_ne ne] at ndx; exact ndx, ?_⟩⟩⟩
    have n1 : H' dx = none := by rw [upd_ne ne] at ndx; exact ndx
    have eh : upd (L2.del (upd (upd (upd H' a (exo a C none)) dx (exd dx [(x, v)])) a (exo a C (some dx))) a) dx (.xd [(x, v)]) = upd H' dx (.xd [(x, v)]) := by
      funext b
      by_cases h1 : b = dx
      · rw [h1, upd_same, upd_same]
      · rw [upd_ne h1, upd_ne h1]
        by_cases h2 : b = a
        · rw [h2, L2.del_same, na]
        · rw [L2.del_ne h2, upd_ne h2, upd_ne h1, upd_ne h2]
    rw [eh]
    have x2 := ext_new (o := .xd [(x, v)]) s1 n1
    exact w as' _ σ (.ref C) (some dx) (x1.trans x2) (s1.new n1) (er.mono (x1.trans x2).w) ⟨hm, (fun z => by cases z), fun _ => ⟨dx, [(x, v)], rfl, s1.fresh n1, upd_same, .cons ⟨rfl, r.mono x2.w⟩ .nil⟩⟩
end
/-! ### try with several clauses, some of them with a name -/
abbrev Hnd := Value × Option Nat × (Addr → Value → Option Addr → TS)
def endsAt (D : Ends) (i : Nat) : Ends := { nx := fun τ J => D.nx (τ.set i none) J, rt := D.rt, bk := fun τ J => D.bk (τ.set i none) J, ct := fun τ J => D.ct (τ.set i none) J }
def wMix (K : PySem.W.Frag) (Wout : WX) (D : Ends) : List Hnd → WX
  | [] => Wout
  | (c, o, ts) :: r => fun cls d σ H => ∃ b, PySem.W.exmOne K cls c = some b ∧ (b = true → ∀ a, H a = none → match o with
      | none => ts a cls d D σ H
      | some i => ts a cls d (endsAt D i) (σ.set i (some (.ref a))) H) ∧ (b = false → wMix K Wout D r cls d σ H)
inductive HdsM (X : Cx) : List ExceptHandler → List Hnd → Prop
  | nil : HdsM X [] []
  | plain {x : Str} {c : Value} {ts : Addr → Value → Option Addr → TS} {b0 : Stmt} {bs : List Stmt} {np q : Pos} {hds : List ExceptHandler} {l : List Hnd} : Names X x c →
      (∀ (a : Addr) (oe : Obj) (cls : Value) (d : Option Addr) (pn : List (Addr × Obj)), Zc cls d oe → (∃ vs, oe.data = .fields vs) → PSs (X.suite a ((a, oe) :: pn)) (b0 :: bs) (ts a cls d)) → HdsM X hds l →
      HdsM X (.ExceptHandler (some (.Name x np)) none (b0 :: bs) q :: hds) ((c, none, ts) :: l)
  | named {x n : Str} {i : Nat} {c : Value} {ts : Addr → Value → Option Addr → TS} {b0 : Stmt} {bs : List Stmt} {np q : Pos} {hds : List ExceptHandler} {l : List Hnd} : Names X x c → X.N[i]? = some n → X.env.kindOf n = some .local →
      (∀ (a : Addr) (oe : Obj) (cls : Value) (d : Option Addr) (pn : List (Addr × Obj)), Zc cls d oe → (∃ vs, oe.data = .fields vs) → PSs (X.suite a ((a, oe) :: pn)) (b0 :: bs) (ts a cls d)) → HdsM X hds l →
      HdsM X (.ExceptHandler (some (.Name x np)) (some n) (b0 :: bs) q :: hds) ((c, some i, ts) :: l)
theorem off_frames {B h : Heap} {st : List Env} {a : Addr} {o : Obj} {vs : Array Value} (ff : h.FunFrames B st) (e : h.get? a = some o) (dd : o.data = .fields vs) : a ∉ frs st := fun m => by
  obtain ⟨_, u, eu, no⟩ := ff.mem m
  cases e.symm.trans eu
  exact no _ dd
section
variable {X : Cx} {body : List Stmt} {h0 : ExceptHandler} {hds : List ExceptHandler} {l : List Hnd} {pos : Pos} {tb : WX → TS} {Wout : WX}
theorem ps_try_mix (hs : X.stack = X.env :: X.outer) (hf : X.env.frame = some X.env.locals) (hN : X.N.Nodup) (tk : Takes X Wout)
    (hb : ∀ (W : WX) (pn : List (Addr × Obj)) (xe : Value → Shared → Prop), Takes (X.tr pn xe) W → PassesOwn (model X.prog X.w) X.A X.env xe → PSs (X.tr pn xe) body (tb W)) (hh : HdsM X (h0 :: hds) l) :
    PS X (.Try body (h0 :: hds) [] [] pos) (fun D σ H => tb (wMix X.K Wout D l) D σ H) := by
  constructor
  intro pins s σ H D I hin
  have ok := I.ok
  have fr0 : X.A.frames = some (X.env :: X.outer) := ok.frames.trans (congrArg some hs)
  have run := (hb (wMix X.K Wout D l) (X.pn ++ pins) (fun e s1 => wpAny (model X.prog X.w) X.A (noteFrame e X.env) (fun _ s2 => wpAny (model X.prog X.w) X.A (setFlight e none) (fun _ s3 => wpAny (model X.prog X.w) X.A (handleBy e X.env (h0 :: hds)) (SP X pins D) X.xe s3) X.xe s2) X.xe s1) ?caught PassesOwn.looking).run [] s σ H D (I.toTry _) hin
  case caught =>
    rintro u t1 ⟨a, B, sI, pins', τ, J, cls, d, rfl, i1, nb, up, sky, na, os, ag, wish⟩
    have i0 : Inv X pins τ J sI := i1.ofTry ok
    rw [show (X.tr (X.pn ++ pins) _).stack = X.env :: X.outer from hs] at sky
    refine Sky.land Zc.steady fr0 hf sky (fun g3 fly sub3 => ?_)
    have i3 : Inv X pins τ J { t1 with heap := g3 } := i0.landed nb fly.1 (up.trans sub3) os ag
    obtain ⟨o3, v3, e3, z3, d3⟩ := fly.there
    have off := off_frames fly.2.2.1 e3 d3
    have ne1 : a ≠ X.env.locals := fun z => off (List.mem_filterMap.mpr ⟨X.env, by simp, z ▸ hf⟩)
    have ne2 : a ∉ X.fs := fun z => by
      obtain ⟨v, m, q⟩ := List.mem_filterMap.mp z
      exact off (List.mem_filterMap.mpr ⟨v, by simp [m], q⟩)
    have sui := i3.suite e3 d3 na ne1 ne2
    have each : ∀ {ks : List ExceptHandler} {m : List Hnd}, HdsM X ks m → wMix X.K Wout D m cls d τ J → wpAny (model X.prog X.w) X.A (handleBy (.ref a) X.env ks) (SP X pins D) X.xe { t1 with heap := g3 } := by
      intro ks m hk
      have tested : ∀ {x : Str} {c : Value} {np : Pos} {Q : Value → Shared → Prop} {E : Value → Shared → Prop}, Names X x c → Q c { t1 with heap := g3 } → wpAny (model X.prog X.w) (X.A.mark (some (.ref a))) (eval (.Name x np) X.env) Q E { t1 with heap := g3 } := by
        rintro x c np Q E ⟨g1, g2, q | ⟨q1, q2, q3⟩⟩ fin
        · exact ld_glob (X := X.suite a ((a, o3) :: (X.pn ++ pins))) sui g1 q fin g2
        · exact ld_blt (X := X.suite a ((a, o3) :: (X.pn ++ pins))) sui g1 q1 q2 fin q3 g2
      have looks : PySem.W.Looks (model X.prog X.w) g3 (typeOf (.ref a)) cls := fun A Q E s k q => wpAny_typeOf_ref (k _ _ e3) (by rw [z3.1]; exact q)
      induction hk with
      | nil =>
        intro wish
        refine wpAny_handleBy_nil ?_
        obtain ⟨-, -, -, oe, vs, T, oT, ts, y1, -, y2, y3, -⟩ := id fly
        have out : wpAny (model X.prog X.w) X.A (setFlight (.ref a) X.env.frame) (fun _ s4 => wpAny (model X.prog X.w) X.A (throw (.ref a) : Sem Flow) (SP X pins D) X.xe s4) X.xe { t1 with heap := g3 } := by
          rw [hf]
          exact HandSPX.setFlight_upZ fly fun g4 at4 sub4 => wpAny_throw (tk _ _ ⟨a, B, sI, pins, τ, J, cls, d, rfl, i0, nb, (up.trans sub3).trans sub4, .inr (.inr (hs ▸ at4)), na, os, ag, wish⟩)
        unfold PySem.passOn
        refine wpAny_bind (wpAny_field y1 y2 y3 ?_)
        have nn : ¬ ((Value.ref T == Value.none) = true) := by simp
        rw [if_neg nn]
        first
          | exact wpAny_bind out
          | exact wpAny_bind (wpAny_pure (wpAny_bind out))
      | @plain x c ts b0 bs np q hds2 l2 names suite rest ih =>
        rintro ⟨b, hb1, yes, no⟩
        refine wpAny_handleBy_cons (codeAny_handlers_test (tested names ((PySem.W.exm_one (M := model X.prog X.w) i3.kIn looks hb1).here ?_))) (fun z => by cases z)
        cases b with
        | false => exact ih (no rfl)
        | true =>
          refine codeAny_handlers_suite (HandSPX.lands_againZ fly fun g4 fly4 sub4 => ?_)
          obtain ⟨o4, v4, e4, z4, d4⟩ := fly4.there
          have i4 : Inv X pins τ J { t1 with heap := g4 } := i0.landed nb fly4.1 ((up.trans sub3).trans sub4) os ag
          refine wpAny_mono ((suite a o4 cls d (X.pn ++ pins) z4 ⟨_, d4⟩).run [] _ τ J _ (i4.suite e4 d4 na ne1 ne2) (yes rfl a na)) (fun f s6 sp => ?_) (fun _ _ z => z.elim)
          cases f with
          | ret u => exact let ⟨v, τ6, J6, k6, r6, q6⟩ := sp; ⟨v, τ6, J6, k6.unsuite ok, r6, q6⟩
          | next => exact let ⟨τ6, J6, k6, q6⟩ := sp; ⟨τ6, J6, k6.unsuite ok, q6⟩
          | brk => exact let ⟨τ6, J6, k6, q6⟩ := sp; ⟨τ6, J6, k6.unsuite ok, q6⟩
          | cont => exact let ⟨τ6, J6, k6, q6⟩ := sp; ⟨τ6, J6, k6.unsuite ok, q6⟩
      | @named x n i c ts b0 bs np q hds2 l2 names hi hl suite rest ih =>
        rintro ⟨b, hb1, yes, no⟩
        refine wpAny_handleBy_cons (codeAny_handlers_test (tested names ((PySem.W.exm_one (M := model X.prog X.w) i3.kIn looks hb1).here ?_))) (fun z => by cases z)
        cases b with
        | false => exact ih (no rfl)
        | true =>
          refine codeAny_handlers_suite_as (HandSPX.lands_againZ fly fun g4 fly4 sub4 => ?_)
          obtain ⟨o4, v4, e4, z4, d4⟩ := fly4.there
          have i4 : Inv X pins τ J { t1 with heap := g4 } := i0.landed nb fly4.1 ((up.trans sub3).trans sub4) os ag
          refine store_ok (X := X.suite a ((a, o4) :: (X.pn ++ pins))) (v := .ref a) (i4.suite e4 d4 na ne1 ne2) hN hi (Or.inl hl) rfl (fun s5 k5 => ?_) (Or.inr hl)
          refine wpAny_mono ((suite a o4 cls d (X.pn ++ pins) z4 ⟨_, d4⟩).run [] s5 _ J _ k5 (yes rfl a na)) (fun f s6 sp => ?_) (fun _ _ z => z.elim)
          cases f with
          | ret u => exact let ⟨v, τ6, J6, k6, r6, q6⟩ := sp; gone_ok (k6.unsuite ok) hN hi hl fun s7 k7 => ⟨v, _, J6, k7, r6, q6⟩
          | next => exact let ⟨τ6, J6, k6, q6⟩ := sp; gone_ok (k6.unsuite ok) hN hi hl fun s7 k7 => ⟨_, J6, k7, q6⟩
          | brk => exact let ⟨τ6, J6, k6, q6⟩ := sp; gone_ok (k6.unsuite ok) hN hi hl fun s7 k7 => ⟨_, J6, k7, q6⟩
          | cont => exact let ⟨τ6, J6, k6, q6⟩ := sp; gone_ok (k6.unsuite ok) hN hi hl fun s7 k7 => ⟨_, J6, k7, q6⟩
    exact each hh wish
  refine wpAny_Try_except (wpAny_mono run (fun f s6 sp => ?_) fun _ _ z => z)
  cases f with
  | ret u => exact let ⟨v, τ6, J6, k6, r6, q6⟩ := sp; ⟨v, τ6, J6, k6.ofTry ok, r6, q6⟩
  | next => exact let ⟨τ6, J6, k6, q6⟩ := sp; wpAny_execs_nil ⟨τ6, J6, k6.ofTry ok, q6⟩
  | brk => exact let ⟨τ6, J6, k6, q6⟩ := sp; ⟨τ6, J6, k6.ofTry ok, q6⟩
  | cont => exact let ⟨τ6, J6, k6, q6⟩ := sp; ⟨τ6, J6, k6.ofTry ok, q6⟩
end
/-! the same, read as a denotation -/
abbrev HD := (Str → Option Bool) × (List (Str × PV) → Sig → AH → Out)
def pickN : List HD → Str → List (Str × PV) → Sig → AH → Out
  | [], c, p, δ, S => .exc c p δ S
  | (sub, run) :: r, c, p, δ, S => match sub c with
    | some true => (run p δ S).nox
    | some false => pickN r c p δ S
    | none => .bad
def pickO (hs : List HD) : Out → Out
  | .exc c p δ S => pickN hs c p δ S
  | o => o
def dTryN (hs : List HD) (fb : Sig → AH → Out) : Sig → AH → Out := fun δ S => pickO hs (fb δ S)
def hPlain (fs : Sig → AH → Out) : List (Str × PV) → Sig → AH → Out := fun _ δ S => fs δ S
def hField (i : Nat) (f : Str) : List (Str × PV) → Sig → AH → Out := fun p δ S => match p.lookup f with
  | some y => if i < δ.length then .rt (.p y) S else .bad
  | none => .bad
inductive HdsD (X : Cx) : List ExceptHandler → List Hnd → List HD → Prop
  | nil : HdsD X [] [] []
  | plain {x : Str} {c : Value} {sub : Str → Option Bool} {fs : Sig → AH → Out} {b0 : Stmt} {bs : List Stmt} {np q : Pos} {hds : List ExceptHandler} {l : List Hnd} {hs : List HD} : Names X x c → (∀ n b cls, sub n = some b → X.mg n = some cls → PySem.W.exmOne X.K cls c = some b) →
      (∀ (a : Addr) (pn : List (Addr × Obj)), DSs (X.suite a pn) EN (b0 :: bs) fs) → HdsD X hds l hs →
      HdsD X (.ExceptHandler (some (.Name x np)) none (b0 :: bs) q :: hds) ((c, none, fun _ _ _ => tS (wd X) EN fs) :: l) ((sub, hPlain fs) :: hs)
  | field {x n f : Str} {i : Nat} {C : Addr} {sub : Str → Option Bool} {np p1 p2 p3 q : Pos} {hds : List ExceptHandler} {l : List Hnd} {hs : List HD} : Names X x (.ref C) → X.mg x = some (.ref C) → (∀ n b cls, sub n = some b → X.mg n = some cls → PySem.W.exmOne X.K cls (.ref C) = some b) → (∀ n, sub n = some true → n = x) →
      X.N[i]? = some n → X.env.kindOf n = some .local → Vis X.env.scope n → XfC X.K C → PySem.W.findIn X.K (.ref C) f = some none → (n == ("__debug__" : Str)) = false → (n == ("__classdict__" : Str)) = false → attributeBase (.Name n p1) f X.env (eval (.Name n p1) X.env) = eval (.Name n p1) X.env → HdsD X hds l hs →
      HdsD X (.ExceptHandler (some (.Name x np)) (some n) [.Return (some (.Attribute (.Name n p1) f p2)) p3] q :: hds) ((.ref C, some i, fun a cls d D σ H => tXf a cls d C f (tVar i) σ H D.rt) :: l) ((sub, hField i f) :: hs)
theorem HdsD.toM {X : Cx} {ks : List ExceptHandler} {l : List Hnd} {hs : List HD} (h : HdsD X ks l hs) : HdsM X ks l := by
  induction h with
  | nil => exact .nil
  | plain a _ c _ ih => exact .plain a (fun w oe cls d pn _ _ => c w _) ih
  | field a _ _ _ e g v T hno nd nc hab _ ih => exact .named a e g (fun w oe cls d pn hz hf => pss_one (ps_ret (pe_xf T hno hz hf (pe_var e v nd nc) hab))) ih
theorem lookup_rel {M : Wd} {as : As} {H : Hp} {f : Str} {y : PV} : ∀ {fs : List (Str × V)} {p : List (Str × PV)}, Paired (fun (g : Str × V) (h : Str × PV) => g.1 = h.1 ∧ PR M as H g.2 h.2) fs p → p.lookup f = some y → ∃ v, fs.lookup f = some v ∧ PR M as H v y
  | _, _, .nil, e => by cases e
  | (g1, v) :: _, (h1, z) :: _, .cons ⟨e1, r⟩ t, e => by
    have e1 : g1 = h1 := e1
    subst e1
    rw [List.lookup_cons] at e ⊢
    cases q : f == g1 with
    | true => rw [q] at e; cases e; exact ⟨v, by simp, r⟩
    | false => rw [q] at e; exact lookup_rel t e
theorem pick_ok {X : Cx} {E : L2.St → XK} {D : Ends} {ks : List ExceptHandler} {l : List Hnd} {hs : List HD} {c : Str} {p : List (Str × PV)} {δ : Sig} {S : AH} {as : As} {H : Hp} {σ : L2.St} {cls : Value} {dd : Option Addr} (h : HdsD X ks l hs) (s : SR (wd X) as H S) (r : ER (wd X) as H σ δ) (ex : ExR (wd X) as H c p cls dd) :
    WS (wd X) E D as H (pickN hs c p δ S) → wMix X.K (fun cls d σ H => E σ cls d H) D l cls dd σ H := by
  induction h with
  | nil => exact fun w => w as H σ cls dd (Ext.refl _ _) s r ex
  | @plain x cv sub fs b0 bs np q hds l hs a hsub c' _ ih =>
    intro w
    unfold pickN at w
    split at w
    · rename_i e1
      refine ⟨true, hsub c true cls e1 ex.1, fun _ a na => ⟨as, δ, S, s, r, ?_⟩, fun z => Bool.noConfusion z⟩
      cases ef : fs δ S with
      | nx δ4 S4 => simp only [hPlain, ef, DL.Out.nox] at w; exact w
      | ct δ4 S4 => simp only [hPlain, ef, DL.Out.nox] at w; exact w
      | bk δ4 S4 => simp only [hPlain, ef, DL.Out.nox] at w; exact w
      | rt d S4 => simp only [hPlain, ef, DL.Out.nox] at w; exact w
      | rtT d S4 => simp only [hPlain, ef, DL.Out.nox] at w; exact w
      | exc c p δ4 S4 => simp only [hPlain, ef, DL.Out.nox] at w; exact w.elim
      | bad => simp only [hPlain, ef, DL.Out.nox] at w; exact w
    · rename_i e1
      exact ⟨false, hsub c false cls e1 ex.1, fun z => Bool.noConfusion z, fun _ => ih w⟩
    · exact w.elim
  | @field x n f i C sub np p1 p2 p3 q hds l hs a m hsub own e g v T hno nd nc hab _ ih =>
    intro w
    unfold pickN at w
    split at w
    · rename_i e1
      refine ⟨true, hsub c true cls e1 ex.1, fun _ a na => ?_, fun z => Bool.noConfusion z⟩
      have ec : cls = .ref C := by
        have := own c e1
        subst this
        have := ex.1
        exact Option.some.inj (this.symm.trans m)
      simp only [hField] at w
      cases el : p.lookup f with
      | none => rw [el] at w; exact w.elim
      | some y =>
        simp only [el] at w
        by_cases hlt : i < δ.length
        case neg => rw [if_neg hlt] at w; exact w.elim
        rw [if_pos hlt] at w
        refine ⟨.ref a, by rw [List.getElem?_set_self (by rw [r.len]; exact hlt)], rfl, ec, ?_⟩
        have hp : p ≠ [] := fun z => by rw [z] at el; cases el
        obtain ⟨dx, fs, e2, e3, e4, e5⟩ := ex.2.2 hp
        obtain ⟨vv, k1, k2⟩ := lookup_rel e5 el
        exact ⟨dx, fs, vv, e2, e4, k1, w as H vv (Ext.refl _ _) s k2⟩
    · rename_i e1
      exact ⟨false, hsub c false cls e1 ex.1, fun z => Bool.noConfusion z, fun _ => ih w⟩
    · exact w.elim
section
variable {X : Cx} {E : L2.St → XK} {body : List Stmt} {h0 : ExceptHandler} {hds : List ExceptHandler} {l : List Hnd} {hs : List HD} {pos : Pos} {fb : Sig → AH → Out}
theorem ds_tryN (g : Gd X E) (hst : X.stack = X.env :: X.outer) (hf : X.env.frame = some X.env.locals) (hN : X.N.Nodup) (hd : HdsD X (h0 :: hds) l hs)
    (hb : ∀ (W : WX) (pn : List (Addr × Obj)) (xe : Value → Shared → Prop), Gd (X.tr pn xe) (WE W) → DSs (X.tr pn xe) (WE W) body fb) : DS X E (.Try body (h0 :: hds) [] [] pos) (dTryN hs fb) :=
  (ps_try_mix (tb := fun W => tS (wd X) (WE W) fb) (Wout := fun cls d σ H => E σ cls d H) hst hf hN g.tk (fun W pn xe tk po => hb W pn xe ⟨g.calm, tk, po⟩) hd.toM).imp fun D σ H ⟨as, δ, S, sr, er, w⟩ => by
  refine ⟨as, δ, S, sr, er, ?_⟩
  unfold dTryN at w
  cases eq : fb δ S with
  | exc c p δ1 S1 =>
    rw [eq] at w
    exact fun as' H' σ' cls dd x' s' r' ex => pick_ok hd s' r' ex (WS.later x' w)
  | nx δ1 S1 => rw [eq] at w; exact w
  | rt d S1 => rw [eq] at w; exact w
  | rtT d S1 => rw [eq] at w; exact w
  | bk δ1 S1 => rw [eq] at w; exact w
  | ct δ1 S1 => rw [eq] at w; exact w
  | bad => rw [eq] at w; exact w
end
/-! how it runs -/
@[simp] theorem ev_tryN {hs : List HD} {fb : Sig → AH → Out} {δ : Sig} {S : AH} : dTryN hs fb δ S = pickO hs (fb δ S) := rfl
@[simp] theorem pickO_nx {hs : List HD} {δ : Sig} {S : AH} : pickO hs (.nx δ S) = .nx δ S := rfl
@[simp] theorem pickO_rt {hs : List HD} {d : DV} {S : AH} : pickO hs (.rt d S) = .rt d S := rfl
@[simp] theorem pickO_exc {hs : List HD} {c : Str} {p : List (Str × PV)} {δ : Sig} {S : AH} : pickO hs (.exc c p δ S) = pickN hs c p δ S := rfl
theorem pick_yes {sub : Str → Option Bool} {run : List (Str × PV) → Sig → AH → Out} {r : List HD} {c : Str} {p : List (Str × PV)} {δ : Sig} {S : AH} (h : sub c = some true) : pickN ((sub, run) :: r) c p δ S = (run p δ S).nox := by
  unfold pickN
  rw [h]
theorem pick_no {sub : Str → Option Bool} {run : List (Str × PV) → Sig → AH → Out} {r : List HD} {c : Str} {p : List (Str × PV)} {δ : Sig} {S : AH} (h : sub c = some false) : pickN ((sub, run) :: r) c p δ S = pickN r c p δ S := by
  rw [pickN.eq_def]
  simp only [h]
@[simp] theorem ev_hPlain {fs : Sig → AH → Out} {p : List (Str × PV)} {δ : Sig} {S : AH} : hPlain fs p δ S = fs δ S := rfl
theorem ev_hField {i : Nat} {f : Str} {y : PV} {δ : Sig} {S : AH} (h : i < δ.length) : hField i f [(f, y)] δ S = .rt (.p y) S := by
  simp [hField, List.lookup, h]
@[simp] theorem ev_raiseF {c x : Str} {fa : Sig → AH → Res DV} {δ : Sig} {S : AH} : dRaiseF c x fa δ S = (fa δ S).out δ fun d S1 => match d with
  | .p y => .exc c [(x, y)] δ S1
  | .c _ => .bad := rfl
/-- one class is caught by its own name alone -/
theorem sub_ok2 {K : PySem.W.Frag} {C C2 : Addr} {x x2 n : Str} {b : Bool} {cls : Value} {mg : Str → Option Value} (i : PySem.W.isClsIn K C = true) (t : PySem.W.typeIn K (.ref C) = some (.type "type")) (bb : PySem.W.subIn K (.ref C) (.type "BaseException") = some true) (s : PySem.W.subIn K (.ref C) (.ref C) = some true)
    (m : mg x = some (.ref C)) (s2 : PySem.W.subIn K (.ref C2) (.ref C) = some false) (m2 : mg x2 = some (.ref C2)) (hs : (if n = x then some true else if n = x2 then some false else none) = some b) (hm : mg n = some cls) : PySem.W.exmOne K cls (.ref C) = some b := by
  by_cases e : n = x
  · exact sub_ok i t bb s m (by rw [if_pos e] at hs ⊢; exact hs) hm
  rw [if_neg e] at hs
  split at hs
  · rename_i e2
    subst e2
    cases hs
    rw [m2] at hm
    cases hm
    have k1 : (PySem.W.subIn K (.ref C) (.type "BaseException") == some true) = true := by rw [bb] <;> rfl
    have k3 : (PySem.W.clsIn K C).isSome = true := i
    have k2 : ((PySem.W.clsIn K C).isSome && PySem.W.typeIn K (.ref C) == some (.type "type")) = true := by rw [k3, t] <;> rfl
    unfold PySem.W.exmOne PySem.W.kitCls
    simp only [k1, k2, if_true, s2]
  · cases hs
end
end DL
namespace DL
noncomputable section
open PySem PySem.Spec PyProof.Rows L2

/-! ### sorted(set(t)), t a tuple of numbers -/
def insU (a : Int) : List Int → List Int
  | [] => [a]
  | b :: r => if a < b then a :: b :: r else if a = b then b :: r else b :: insU a r
def srtU : List Int → List Int
  | [] => []
  | a :: r => insU a (srtU r)
theorem insU_mem (a k : Int) : ∀ l, k ∈ insU a l ↔ k = a ∨ k ∈ l
  | [] => by simp [insU]
  | b :: r => by
    unfold insU
    by_cases h1 : a < b
    · rw [if_pos h1, List.mem_cons]
    · by_cases h2 : a = b
      · rw [if_neg h1, if_pos h2, h2, List.mem_cons]
        constructor
        · exact fun h => .inr h
        · rintro (h | h)
          · exact .inl h
          · exact h
      · rw [if_neg h1, if_neg h2, List.mem_cons, insU_mem a k r, List.mem_cons]
        constructor
        · rintro (h | h | h)
          · exact .inr (.inl h)
          · exact .inl h
          · exact .inr (.inr h)
        · rintro (h | h | h)
          · exact .inr (.inl h)
          · exact .inl h
          · exact .inr (.inr h)
theorem insU_asc (a : Int) : ∀ {l : List Int}, l.Pairwise (· < ·) → (insU a l).Pairwise (· < ·)
  | [], _ => by simp [insU]
  | b :: r, h => by
    obtain ⟨h1, h2⟩ := List.pairwise_cons.mp h
    unfold insU
    by_cases q1 : a < b
    · rw [if_pos q1]
      refine List.pairwise_cons.mpr ⟨fun y hy => ?_, h⟩
      rcases List.mem_cons.mp hy with rfl | hy
      · exact q1
      · have := h1 y hy; omega
    · by_cases q2 : a = b
      · rw [if_neg q1, if_pos q2]
        exact h
      · rw [if_neg q1, if_neg q2]
        refine List.pairwise_cons.mpr ⟨fun y hy => ?_, insU_asc a h2⟩
        rcases (insU_mem a y r).mp hy with rfl | hy
        · omega
        · exact h1 y hy
theorem srtU_mem (k : Int) : ∀ l, k ∈ srtU l ↔ k ∈ l
  | [] => by simp [srtU]
  | a :: r => by rw [srtU, insU_mem, srtU_mem k r, List.mem_cons]
theorem srtU_asc : ∀ l, (srtU l).Pairwise (· < ·)
  | [] => .nil
  | a :: r => insU_asc a (srtU_asc r)
theorem asc_same : ∀ {l m : List Int}, l.Pairwise (· < ·) → m.Pairwise (· < ·) → (∀ k, k ∈ l ↔ k ∈ m) → l = m
  | [], [], _, _, _ => rfl
  | [], b :: m, _, _, h => by have := (h b).mpr List.mem_cons_self; cases this
  | a :: l, [], _, _, h => by have := (h a).mp List.mem_cons_self; cases this
  | a :: l, b :: m, h1, h2, h => by
    obtain ⟨p1, p2⟩ := List.pairwise_cons.mp h1
    obtain ⟨q1, q2⟩ := List.pairwise_cons.mp h2
    have ab : a = b := by
      rcases List.mem_cons.mp ((h a).mp List.mem_cons_self) with e | e
      · exact e
      · rcases List.mem_cons.mp ((h b).mpr List.mem_cons_self) with e2 | e2
        · exact e2.symm
        · have := p1 b e2
          have := q1 a e
          omega
    subst ab
    rw [asc_same p2 q2 fun k => ?_]
    constructor
    · intro hk
      rcases List.mem_cons.mp ((h k).mp (List.mem_cons_of_mem _ hk)) with e | e
      · have := p1 k hk; omega
      · exact e
    · intro hk
      rcases List.mem_cons.mp ((h k).mpr (List.mem_cons_of_mem _ hk)) with e | e
      · have := q1 k hk; omega
      · exact e
section
variable {X : Cx}
def rSetI (K : PySem.W.Frag) (w : World) : List V → Hp → VK → Prop := fun vs H Q => ∃ (l : Addr) (ns : List Int), vs = [V.ref l] ∧ SqT K H l (ns.map V.int) ∧ ns.length ≤ 1000 ∧ ∀ a c, H a = none → c ≤ ns.length → Q (.ref a) (upd H a (SetO w a (fun j => decide (j ∈ ns)) c))
theorem cr_setI (hc : X.calm = true) : CallR X (.type "set") (rSetI X.K X.w) := by
  intro pins s σ H vs us Q I r ⟨l, ns, ev, hq, hz, q⟩
  subst ev
  rw [Vals.ref1 r]
  obtain ⟨its, rv, pt, _⟩ := I.tuple hq
  exact call_set_tupI ns (I.ok.hd hc) (show s.heap.IsTuple l its.toArray from pt) (ints_of_vals rv) (by unfold scanBound; omega) fun h' tk c R1 hcn k =>
    ⟨.ref s.heap.objs.size, _, I.laid (t' := tk) k (Nat.le_refl _) (setO_new R1), rfl, q _ c (I.hok.fresh (Nat.le_refl _)) hcn⟩
def ssetF : OpF := fun ds _ => match ds with
  | [.p (.tup xs)] => match intsOf xs with
    | some ns => if ns.length < 64 then some ((srtU ns).map PV.int) else none
    | none => none
  | _ => none
end
section
variable {X : Cx} {E : L2.St → XK} {e : Expr} {p p2 q pos : Pos} {fe : Sig → AH → Res DV}
theorem fe_sset (g : Gd X E) (hg : Gl X "sorted") (hm : X.mg "sorted" = none) (hg2 : Gl X "set") (hm2 : X.mg "set" = none) (he : DE X E e fe) (hs : starEach [e] X.env = [(false, eval e X.env)] := by rfl) (hs2 : starEach [Expr.Call (.Name "set" p2) [e] [] q] X.env = [(false, eval (Expr.Call (.Name "set" p2) [e] [] q) X.env)] := by rfl) :
    FE X E (.Call (.Name "sorted" p) [.Call (.Name "set" p2) [e] [] q] [] pos) (dAppF ssetF (dCons fe dNil)) :=
  (pe_callB (cr_sortedSet g.calm) hg hm (by kernel_rfl) (pa_cons (pe_callTy (cr_setI g.calm) hg2 hm2 (by kernel_rfl) (pa_cons he pa_nil hs) (by decide) (by decide) hs rfl) pa_nil hs2) (by decide) (by decide) hs2 rfl).imp fun σ H Q ⟨as, δ, S, sr, er, w⟩ => by
  have w : WF (wd X) (E σ) as H ((fe δ S).bind fun d S1 => match ssetF [d] S1 with
    | some ps => .ok ps S1
    | none => .bad) Q := by
    have e1 : dAppF ssetF (dCons fe dNil) δ S = (fe δ S).bind fun d S1 => match ssetF [d] S1 with
      | some ps => .ok ps S1
      | none => .bad := by
      show (Res.bind (Res.bind (fe δ S) _) _) = _
      cases fe δ S <;> rfl
    rw [← e1]
    exact w
  refine ⟨as, δ, S, sr, er, (WF.bind (R := DVR (wd X)) w).mono fun _ _ _ _ v _ _ _ _ ⟨as1, S1, d1, _, x1, s1, r1, w1⟩ => ?_⟩
  cases d1 with
  | c n => exact w1.elim
  | p x =>
  cases x with
  | tup xs =>
    cases r1 with
    | tup h t =>
      cases e1 : intsOf xs with
      | none => simp only [ssetF, e1] at w1; exact w1.elim
      | some ns =>
        by_cases h64 : ns.length < 64
        case neg => simp only [ssetF, e1, if_neg h64] at w1; exact w1.elim
        simp only [ssetF, e1, if_pos h64] at w1
        rw [intsOf_ok e1] at t
        have q2 := h.sq
        rw [t.ints] at q2
        refine ⟨_, ns, rfl, q2, by omega, fun a c na hc => ⟨a, _, c, rfl, upd_same, by omega, fun ns' p asc mem len np => ?_⟩⟩
        have en : ns' = srtU ns := asc_same asc (srtU_asc ns) fun k => by rw [mem k, srtU_mem]; simp
        subst en
        have x2 := ext_new (o := SetO X.w a (fun j => decide (j ∈ ns)) c) s1 na
        exact (WF.later x2 w1).here (s1.new na) (by rw [List.length_map, sizeLine_eq]; omega) (PRs.of_ints _) np
  | _ => exact w1.elim
end
end
end DL
namespace DL
noncomputable section
open PySem PySem.Spec PyProof.Rows L2
/-! ### a + b of two lists, as a new list -/
def catF (a b : DV) (S : AH) : Res (List PV) := match lstOf a S, lstOf b S with
  | some xs, some ys => if xs.length + ys.length ≤ 16777216 then .ok (xs ++ ys) S else .bad
  | _, _ => .bad
def dCat (fa fb : Sig → AH → Res DV) : Sig → AH → Res (List PV) := fun δ S => (fa δ S).bind fun a S => (fb δ S).bind fun b S => catF a b S
section
variable {X : Cx} {E : L2.St → XK} {a b : Expr} {pos : Pos} {fa fb : Sig → AH → Res DV}
theorem fe_cat (ha : DE X E a fa) (hb : DE X E b fb) : FE X E (.BinOp a .Add b pos) (dCat fa fb) := (pe_op op_cat ha hb).imp fun σ H Q ⟨as, δ, S, sr, er, w⟩ =>
  ⟨as, δ, S, sr, er, (WF.bind w).mono fun _ _ _ _ _ _ _ _ _ ⟨as1, S1, d1, _, x1, s1, r1, w1⟩ => ⟨as1, δ, S1, s1, er.mono x1.w, (WF.bind w1).mono fun _ _ _ _ _ _ _ _ _ ⟨as2, S2, d2, _, x2, s2, r2, w2⟩ => by
    unfold catF at w2
    split at w2
    · rename_i xs ys e1 e2
      obtain ⟨p, vs, rfl, z1, h1, t1⟩ := lstOf_at s2 (r1.mono x2.w) e1
      obtain ⟨q, ws, rfl, z2, h2, t2⟩ := lstOf_at s2 r2 e2
      split at w2
      · rename_i z
        have z : vs.length + ws.length ≤ sizeLine := by
          rw [t1.length, t2.length, show sizeLine = 16777216 by decide]; exact z
        exact ⟨_, _, _, _, rfl, rfl, h1, h2, z, fun p n => w2.here s2 (by rw [List.length_append]; exact z) (t1.append t2) n⟩
      · exact w2.elim
    · exact w2.elim⟩⟩
end
section
variable {δ : Sig} {S : AH} {fa fb : Sig → AH → Res DV}
def kCat (fb : Sig → AH → Res DV) (δ : Sig) (a : DV) (S : AH) : Res (List PV) := (fb δ S).bind (catF a)
@[simp] theorem ev_cat : dCat fa fb δ S = (fa δ S).bind (kCat fb δ) := (rfl)
@[simp] theorem ev_kCat {a : DV} : kCat fb δ a S = (fb δ S).bind (catF a) := (rfl)
theorem catF_ok {a b : DV} {xs ys : List PV} (h1 : lstOf a S = some xs) (h2 : lstOf b S = some ys) (z : xs.length + ys.length ≤ 16777216) : catF a b S = .ok (xs ++ ys) S := by
  unfold catF
  simp only [h1, h2]
  rw [if_pos z]
end
end
end DL
/-! D23: loops over a list that must stay, three cells at the end, remove, max and min of lists. -/
namespace DL
open PySem L2
section
variable {q : Pat} {fb : Sig → AH → Out} {δ : Sig} {S : AH} {ck : AH → Prop}
theorem for_nilC (h : ck S) : forGo ck q fb [] δ S = .nx δ S := by
  unfold forGo
  rw [if_pos h]
theorem for_consC {x : DV} {xs : List DV} {δ1 : Sig} (h0 : ck S) (h : q.set x δ = some δ1) : forGo ck q fb (x :: xs) δ S = afterTurn (fb δ1 S) (forGo ck q fb xs) := by
  conv => lhs; unfold forGo
  rw [if_pos h0]
  simp only [h]
  unfold afterTurn
  rfl
theorem for_nmC {i : Nat} {x : DV} {xs : List DV} (h0 : ck S) : forGo ck (.nm i) fb (x :: xs) δ S = afterTurn (fb (δ.set i (some x)) S) (forGo ck (.nm i) fb xs) := for_consC h0 rfl
end
section
variable {R : AH} {A B C : Cell}
theorem tri_get0 : (R ++ [A, B, C])[R.length]? = some A := by simp
theorem tri_get1 : (R ++ [A, B, C])[R.length + 1]? = some B := by
  rw [List.getElem?_append_right (by omega)]; simp
theorem tri_get2 : (R ++ [A, B, C])[R.length + 2]? = some C := by
  rw [List.getElem?_append_right (by omega)]; simp
theorem tri_set0 {X : Cell} : (R ++ [A, B, C]).set R.length X = R ++ [X, B, C] := by simp
theorem tri_set1 {X : Cell} : (R ++ [A, B, C]).set (R.length + 1) X = R ++ [A, X, C] := by
  rw [List.set_append_right _ _ (by omega)]; simp
theorem tri_set2 {X : Cell} : (R ++ [A, B, C]).set (R.length + 2) X = R ++ [A, B, X] := by
  rw [List.set_append_right _ _ (by omega)]; simp
theorem tri_take : (R ++ [A, B, C]).take R.length = R := by simp
end
theorem rem_c {n : Nat} {l : List Int} {b : Int} {S : AH} (h : S[n]? = some (.lst (l.map PV.int))) (hb : b ∈ l) : remM (.c n) [.p (.int b)] S = some (.p .non, S.set n (.lst ((l.erase b).map PV.int))) := by
  unfold remM
  simp only [h, intsOf_map, if_pos hb]
theorem max_items {d : DV} {l : List Int} {S : AH} (h : litems d S = some (l.map PV.int)) (hn : l ≠ []) : maxO [d] S = some (.p (.int (maxI l)), S) := by
  unfold maxO
  split
  · next e => cases e
  · next e => cases e; simp only [h, intsOf_map, if_pos hn]
  · next e1 e2 => exact absurd rfl (e2 _)
theorem min_items {d : DV} {l : List Int} {S : AH} (h : litems d S = some (l.map PV.int)) (hn : l ≠ []) : minO [d] S = some (.p (.int (minI l)), S) := by
  unfold minO
  split
  · next e => cases e
  · next e => cases e; simp only [h, intsOf_map, if_pos hn]
  · next e1 e2 => exact absurd rfl (e2 _)
theorem max_c {n : Nat} {l : List Int} {S : AH} (h : S[n]? = some (.lst (l.map PV.int))) (hn : l ≠ []) : maxO [.c n] S = some (.p (.int (maxI l)), S) := max_items (litems_c h) hn
theorem min_c {n : Nat} {l : List Int} {S : AH} (h : S[n]? = some (.lst (l.map PV.int))) (hn : l ≠ []) : minO [.c n] S = some (.p (.int (minI l)), S) := min_items (litems_c h) hn
theorem max_lst {l : List Int} {S : AH} (hn : l ≠ []) : maxO [.p (.lst (l.map PV.int))] S = some (.p (.int (maxI l)), S) := max_items rfl hn
theorem min_lst {l : List Int} {S : AH} (hn : l ≠ []) : minO [.p (.lst (l.map PV.int))] S = some (.p (.int (minI l)), S) := min_items rfl hn
/-- the last one -/
theorem atI_last {α : Type} {xs : List α} {x : α} : atI (xs ++ [x]) (-1) = some x := by
  unfold atI ixN
  rw [List.length_append, if_neg (by omega), if_pos (by simp; omega)]
  have e : ((-1 : Int) + ((xs.length + [x].length : Nat) : Int)).toNat = xs.length := by simp; omega
  rw [e]
  simp
theorem cnt_c {n : Nat} {l : List Int} {k : Int} {S : AH} (h : S[n]? = some (.lst (l.map PV.int))) : cntM (.c n) [.p (.int k)] S = some (.p (.int (l.count k : Nat)), S) := by
  unfold cntM
  simp only [litems_c h, Option.bind_some, intsOf_map]
theorem cnt_lst {l : List Int} {k : Int} {S : AH} : cntM (.p (.lst (l.map PV.int))) [.p (.int k)] S = some (.p (.int (l.count k : Nat)), S) := by
  unfold cntM
  simp only [litems_lst, Option.bind_some, intsOf_map]
/-- statement by statement -/
theorem sq_step {f g : Sig → AH → Out} {δ δ1 : Sig} {S S1 : AH} {o : Out} (h : f δ S = .nx δ1 S1) (h2 : g δ1 S1 = o) : dSeq f g δ S = o := by
  rw [ev_seq, h, seq_nx, h2]
theorem cutL_last {α : Type} {xs : List α} : cutL xs none (some (-1)) = xs.dropLast := by
  unfold cutL
  have e1 : HT.sIx xs.length xs.length (some (-1)) = xs.length - 1 := by
    show (if (-1 : Int) < 0 then ((-1 : Int) + (xs.length : Int)).toNat else min (-1 : Int).toNat xs.length) = _
    rw [if_pos (by decide)]; omega
  have e2 : HT.sIx xs.length 0 none = 0 := rfl
  rw [e1, e2, List.drop_zero, Nat.sub_zero, List.dropLast_eq_take]
/-- a loop that leaves all but its own name -/
theorem loop_same {fb : Sig → AH → Out} {i : Nat} {δ : Sig} {S : AH} : ∀ (items : List DV) (y0 : Option DV), (∀ x ∈ items, fb (δ.set i (some x)) S = .nx (δ.set i (some x)) S) → ∃ y, forGo ckT (.nm i) fb items (δ.set i y0) S = .nx (δ.set i y) S
  | [], y0, _ => ⟨y0, for_nil⟩
  | x :: items, y0, h => by
    obtain ⟨y, e⟩ := loop_same items (some x) fun z hz => h z (List.mem_cons_of_mem _ hz)
    refine ⟨y, ?_⟩
    rw [for_nm, List.set_set, h x List.mem_cons_self, after_nx, e]
theorem of_dit {vs : List PV} {x : DV} (h : x ∈ dit vs) : ∃ v ∈ vs, x = .p v := by
  obtain ⟨v, hv, rfl⟩ := List.mem_map.mp h
  exact ⟨v, hv, rfl⟩
theorem of_rangeI {lo : Int} {n : Nat} {x : DV} (h : x ∈ rangeI lo n) : ∃ k < n, x = .p (.int (lo + (k : Int))) := by
  rw [rangeI_eq] at h
  obtain ⟨k, hk, rfl⟩ := List.mem_map.mp h
  exact ⟨k, List.mem_range.mp hk, rfl⟩
end DL
/-! D24: x.count(k) of a list or a tuple of numbers. -/
namespace DL
open PySem PySem.Spec PyProof.Rows L2
section
variable {X : Cx}
theorem mt_tcount : MtR X "tuple.count" (fun x xs H Q => ∃ (p : Addr) (ns : List Int) (k : Int), x = .ref p ∧ xs = [.int k] ∧ SqT X.K H p (ns.map V.int) ∧ Q (.int (ns.count k : Nat)) H) := by
  rintro pins s σ H x xs v us Q I rx rxs ⟨p, ns, k, rfl, rfl, hs, q⟩
  cases rx
  obtain ⟨u, rfl, t, rfl⟩ := rxs.one
  obtain ⟨its, rv, ⟨⟨cls, dd, data, sl⟩, ho, hc, n, hd⟩, hlen⟩ := I.tuple hs
  simp only at hc hd
  subst hc hd
  have hi := ints_of_vals rv
  have ec : its.toArray.toList.countP (eqk k) = ns.count k := eqk_count hi
  refine call_meets PySem.F.slot_tuple_count ⟨_, ho, rfl⟩ PySem.F.entry_tuple_count (PySem.F.args_tuple_count_2 _ _)
    (SeqAt.tuple_countAt p its.toArray n dd sl (.int k t) (eqk k)) ⟨ho, fun y hy => (eqk_gives hi y (by simpa using hy)).at _ _, V.int (ns.count k : Nat), H, I.tok _, ⟨s.toks, ?_⟩, q⟩
  show Value.int ((its.toArray.toList.countP (eqk k) : Nat) : Int) s.toks = _
  rw [ec]
/-- a tuple without a dict of its own -/
def tyT (K : PySem.W.Frag) (x : V) (H : Hp) : Prop := ∃ p, x = .ref p ∧ ((∃ o xs, o.dict = none ∧ H p = some (.frz o (.tup xs))) ∨ (∃ o, K.lookup p = some o ∧ o.cls = .type "tuple" ∧ o.dict = none))
theorem tyT_is {pins : List (Addr × Obj)} {σ : L2.St} {H : Hp} {s : Shared} {x : V} {v : Value} (I : Inv X pins σ H s) (r : RelV x v) (ty : tyT X.K x H) :
    s.TypeIs v "tuple" ∧ ∀ a, v = .ref a → ∃ ob, s.heap.get? a = some ob ∧ ob.dict = none := by
  obtain ⟨p, rfl, h⟩ := ty
  cases r
  have k : ∃ o : Obj, s.heap.get? p = some o ∧ o.cls = .type "tuple" ∧ o.dict = none := by
    rcases h with ⟨o, xs, hd, e⟩ | ⟨o, e, hc, hd⟩
    · obtain ⟨g, _, its, _, o2, g2, hc, _⟩ := I.hok p _ e
      have : o2 = o := Option.some.inj (g2.symm.trans g)
      subst this
      exact ⟨o2, g2, hc, hd⟩
    · exact ⟨o, I.kIn p o e, hc, hd⟩
  obtain ⟨o, g, hc, hd⟩ := k
  exact ⟨⟨o, g, hc⟩, fun a e => by cases e; exact ⟨o, g, hd⟩⟩
theorem RdT.ty {K : PySem.W.Frag} {as : As} {H : Hp} {a : Addr} {xs : List V} (h : RdT K as H a xs) : tyT K (.ref a) H := by
  rcases h.2 with ⟨⟨o, d, e⟩, _⟩ | ⟨o, its, n, h1, h2, h3, _⟩
  · exact ⟨a, rfl, .inl ⟨o, xs, d, e⟩⟩
  · exact ⟨a, rfl, .inr ⟨o, h1, h2, h3⟩⟩
/-- a method of a list or a tuple -/
theorem pe_mLT {o e : Expr} {es : List Expr} {to : TE} {t : TA} {name : Str} {apos cpos : Pos} {i1 i2 : String} {r1 r2 : V → List V → Hp → VK → Prop}
    (s1 : Slot "list" name i1) (s2 : Slot "tuple" name i2) (y1 : typeOf (.builtin i1) = pure (.type "method_descriptor")) (y2 : typeOf (.builtin i2) = pure (.type "method_descriptor")) (m1 : MtR X i1 r1) (m2 : MtR X i2 r2) (ho : PE X o to) (ha : PA X (e :: es) t)
    (hbase : attributeBase o name X.env (eval o X.env) = eval o X.env)
    (hfew : ((backTo cpos (starEach (e :: es) X.env)).all (fun x => !x.1) && (backToKw cpos (keywordEach [] X.env)).all (fun x => x.1.isSome) && decide ((e :: es).length + ([] : List Keyword).length + (if ([] : List Keyword).isEmpty then 0 else 1) < 30)) = true)
    (hline : (apos.endLine == cpos.line) = true) (hs : starEach (e :: es) X.env = (false, eval e X.env) :: starEach es X.env) (hp : (backTo cpos (starEach es X.env)).any (·.1) = false) :
    PE X (.Call (.Attribute o name apos) (e :: es) [] cpos) (fun σ H Q => to σ H fun x H1 => (tyV X.K "list" x H1 ∧ t σ H1 fun xs H2 => r1 x xs H2 Q) ∨ (tyT X.K x H1 ∧ t σ H1 fun xs H2 => r2 x xs H2 Q)) := by
  constructor
  intro pins s σ H Q I h
  refine wpAny_Call_method_late hbase hfew hline rfl (thn (ho.run pins s σ H _ I h) fun v w1 ⟨x, H1, I1, rv, q⟩ => ?_)
  rcases q with ⟨ty, q1⟩ | ⟨ty, q1⟩
  · obtain ⟨h1, h2⟩ := tyV_is I1 rv ty
    refine ⟨"list", i1, PySem.F.plainAttrs_list, s1, y1, h1, h2, ?_⟩
    have hA := ha.run cpos pins w1 σ H1 _ I1 q1
    rw [hs] at hA ⊢
    exact Calls.callWith_builtin (by show (false || (backTo cpos (starEach es X.env)).any (·.1)) = false; rw [hp]; rfl) (Calls.evalArgs_plain (thn hA fun us w2 ⟨vs, H2, I2, r2, q2⟩ => m1 pins w2 σ H2 x vs v us Q I2 rv r2 q2))
  · obtain ⟨h1, h2⟩ := tyT_is I1 rv ty
    refine ⟨"tuple", i2, PySem.F.plainAttrs_tuple, s2, y2, h1, h2, ?_⟩
    have hA := ha.run cpos pins w1 σ H1 _ I1 q1
    rw [hs] at hA ⊢
    exact Calls.callWith_builtin (by show (false || (backTo cpos (starEach es X.env)).any (·.1)) = false; rw [hp]; rfl) (Calls.evalArgs_plain (thn hA fun us w2 ⟨vs, H2, I2, r2, q2⟩ => m2 pins w2 σ H2 x vs v us Q I2 rv r2 q2))
end
/-! ### in the layer -/
def cntT : OpM := fun d ds S => match d, ds with
  | .p (.tup xs), [.p (.int k)] => match intsOf xs with
    | some ns => some (.p (.int (ns.count k : Nat)), S)
    | none => none
  | _, _ => none
def kCntT (xs : List PV) (ds : List DV) (S : AH) : Res DV := lift (cntT (.p (.tup xs)) ds S)
def kCnt (fs : Sig → AH → Res (List DV)) (δ : Sig) (d : DV) (S : AH) : Res DV := match d with
  | .p (.tup xs) => (fs δ S).bind (kCntT xs)
  | d => kMeth cntM fs δ d S
def dCnt (fo : Sig → AH → Res DV) (fs : Sig → AH → Res (List DV)) : Sig → AH → Res DV := fun δ S => (fo δ S).bind (kCnt fs δ)
section
variable {X : Cx} {E : L2.St → XK} {ob e : Expr} {es : List Expr} {name : Str} {apos cpos : Pos} {fo : Sig → AH → Res DV} {fs : Sig → AH → Res (List DV)}
theorem ow_cntT : MtR X "tuple.count" (rMD (wd X) cntT) := by
  intro pins s σ H x vs v us Q I rx rv h
  obtain ⟨as, S, d, ds, sr, r1, r2, w⟩ := h
  unfold cntT at w
  split at w
  · obtain ⟨y, rfl, ry⟩ := DVRs.one r2
    cases ry
    split at w
    · rename_i ns e
      cases r1 with
      | tup h t =>
        rw [intsOf_ok e] at t
        have hs := h.sq
        rw [t.ints] at hs
        exact mt_tcount pins s σ H _ _ v us Q I rx rv ⟨_, ns, _, rfl, rfl, hs, w.here sr (.int _)⟩
    · exact w.elim
  · exact w.elim
theorem de_cnt (slot : Slot "list" name "list.count") (slot2 : Slot "tuple" name "tuple.count") (ho : DE X E ob fo) (ha : DA X E (e :: es) fs)
    (hbase : attributeBase ob name X.env (eval ob X.env) = eval ob X.env := by rfl)
    (hfew : ((backTo cpos (starEach (e :: es) X.env)).all (fun x => !x.1) && (backToKw cpos (keywordEach [] X.env)).all (fun x => x.1.isSome) && decide ((e :: es).length + ([] : List Keyword).length + (if ([] : List Keyword).isEmpty then 0 else 1) < 30)) = true := by rfl)
    (hline : (apos.endLine == cpos.line) = true := by rfl) (hs : starEach (e :: es) X.env = (false, eval e X.env) :: starEach es X.env := by rfl) (hp : (backTo cpos (starEach es X.env)).any (·.1) = false := by rfl) :
    DE X E (.Call (.Attribute ob name apos) (e :: es) [] cpos) (dCnt fo fs) :=
  (pe_mLT slot slot2 PySem.F.type_list_count PySem.F.type_tuple_count ow_count ow_cntT ho ha hbase hfew hline hs hp).imp fun σ H Q ⟨as, δ, S, sr, er, w⟩ =>
    ⟨as, δ, S, sr, er, w.bind.mono fun _ _ _ _ _ _ _ _ _ ⟨as1, S1, d1, _, x1, s1, r1, w1⟩ => by
      unfold kCnt at w1
      split at w1
      · cases r1 with
        | tup h t =>
          refine .inr ⟨h.ty, as1, δ, S1, s1, er.mono x1.w, w1.bind.mono fun _ _ _ _ _ _ _ _ _ ⟨as2, S2, d2, _, x2, s2, r2, w2⟩ => ?_⟩
          exact ⟨as2, S2, _, d2, s2, (DVR.mono (d := .p (.tup _)) x2.w (.tup h t)), r2, w2.wo⟩
      · unfold kMeth at w1
        split at w1
        · rename_i e1
          obtain ⟨a, vs, rfl, q⟩ := isLst_sq s1 r1 e1
          exact .inl ⟨.inl ⟨rfl, _, q⟩, as1, δ, S1, s1, er.mono x1.w, w1.bind.mono fun _ _ _ _ _ _ _ _ _ ⟨as2, S2, d2, _, x2, s2, r2, w2⟩ => ⟨as2, S2, d1, d2, s2, r1.mono x2.w, r2, w2.wo⟩⟩
        · exact w1.elim⟩
theorem ow_idx : MtR X "list.index" (rMD (wd X) idxM) := by
  intro pins s σ H x vs v us Q I rx rv h
  obtain ⟨as, S, d, ds, sr, r1, r2, w⟩ := h
  unfold idxM at w
  split at w
  · rename_i k
    obtain ⟨y, rfl, ry⟩ := DVRs.one r2
    cases ry
    split at w
    · rename_i ns e
      simp only [Option.bind_eq_some_iff] at e
      obtain ⟨xs, e1, e2⟩ := e
      obtain ⟨a, ws, rfl, z, q, t⟩ := litems_sq sr r1 e1
      rw [intsOf_ok e2] at t
      rw [t.ints] at q
      split at w
      · rename_i hk
        have hi : ns.idxOf k < ns.length := List.idxOf_lt_length_of_mem hk
        refine mt_index pins s σ H _ _ v us Q I rx rv ⟨a, _, _, ns.idxOf k, .int k, rfl, rfl, q, rfl, ?_, ?_, ?_, ?_, w.here sr (.int _)⟩
        · rw [List.all_map]; exact List.all_eq_true.mpr fun _ _ => rfl
        · rw [List.getElem?_map, List.getElem?_eq_getElem hi, List.getElem_idxOf]; rfl
        · simp [eqV]
        · intro m z' hm hz
          rw [List.getElem?_map] at hz
          obtain ⟨i, hi2, rfl⟩ := Option.map_eq_some_iff.mp hz
          have hne := idxOf_first ns k m hm
          have : i ≠ k := fun e => hne (by rw [hi2, e])
          simp [eqV, this]
      · exact w.elim
    · exact w.elim
  · exact w.elim
end
@[simp] theorem ev_cnt {fo : Sig → AH → Res DV} {fs : Sig → AH → Res (List DV)} {δ : Sig} {S : AH} : dCnt fo fs δ S = (fo δ S).bind (kCnt fs δ) := (rfl)
@[simp] theorem kCnt_tup {fs : Sig → AH → Res (List DV)} {δ : Sig} {S : AH} {xs : List PV} : kCnt fs δ (.p (.tup xs)) S = (fs δ S).bind (kCntT xs) := (rfl)
@[simp] theorem kCntT_ints {ns : List Int} {k : Int} {S : AH} : kCntT (ns.map PV.int) [.p (.int k)] S = .ok (.p (.int (ns.count k : Nat))) S := by
  unfold kCntT cntT
  simp only [intsOf_map]
  rfl
@[simp] theorem kCnt_lst {fs : Sig → AH → Res (List DV)} {δ : Sig} {S : AH} {xs : List PV} : kCnt fs δ (.p (.lst xs)) S = (fs δ S).bind (kMeth2 cntM (.p (.lst xs))) := ev_kMeth litems_lst
theorem kCnt_c {fs : Sig → AH → Res (List DV)} {δ : Sig} {S : AH} {n : Nat} {xs : List PV} (h : S[n]? = some (.lst xs)) : kCnt fs δ (.c n) S = (fs δ S).bind (kMeth2 cntM (.c n)) := ev_kMeth (litems_c h)
theorem idx_lst {ns : List Int} {k : Int} {S : AH} (h : k ∈ ns) : idxM (.p (.lst (ns.map PV.int))) [.p (.int k)] S = some (.p (.int (ns.idxOf k : Nat)), S) := by
  unfold idxM
  simp only [litems_lst, Option.bind_some, intsOf_map, if_pos h]
end DL
/-! D25: dicts with numbers as keys: dict(t) of a tuple of pairs, d[k], k in d, d.get(k, x). -/
namespace DL
open PySem PySem.Spec PyProof.Rows L2
def lookD (kvs : List (Int × PV)) (k : Int) : Option PV := (kvs.find? fun p => decide (p.1 = k)).map (·.2)
section
variable {M : Wd} {as : As} {H : Hp}
theorem dzip_val : ∀ {kvs : List (Int × PV)} {vs : List V}, PRs M as H vs (kvs.map (·.2)) → ∀ k : Int, (valV (dzip kvs vs) (Sum.inl k) = none ∧ lookD kvs k = none) ∨ (∃ v p, valV (dzip kvs vs) (Sum.inl k) = some v ∧ lookD kvs k = some p ∧ PR M as H v p)
  | [], _, _, k => .inl ⟨rfl, rfl⟩
  | (j, x) :: kvs, [], r, k => by cases r
  | (j, x) :: kvs, v :: vs, r, k => by
    cases r with
    | cons h t =>
      have ih := dzip_val t k
      have e : dzip ((j, x) :: kvs) (v :: vs) = ((Sum.inl j : Key), v) :: dzip kvs vs := rfl
      by_cases q : j = k
      · subst q
        refine .inr ⟨v, x, ?_, ?_, h⟩
        · rw [e]; unfold valV; simp
        · unfold lookD; simp
      · have q2 : ¬ ((Sum.inl j : Key) = Sum.inl k) := fun z => q (Sum.inl.inj z)
        have e1 : valV (dzip ((j, x) :: kvs) (v :: vs)) (Sum.inl k) = valV (dzip kvs vs) (Sum.inl k) := by rw [e]; unfold valV; simp [q]
        have e2 : lookD ((j, x) :: kvs) k = lookD kvs k := by unfold lookD; simp [q]
        rw [e1, e2]
        exact ih
end
/-- the pairs of a tuple -/
def pairOf : PV → Option (Int × PV)
  | .tup [.int k, v] => some (k, v)
  | _ => none
def pairsOf : List PV → Option (List (Int × PV))
  | [] => some []
  | x :: xs => (pairOf x).bind fun p => (pairsOf xs).map fun r => p :: r
def pairsD : DV → Option (List (Int × PV))
  | .p (.tup xs) => pairsOf xs
  | _ => none
open Classical in
def dDict (fs : Sig → AH → Res (List DV)) : Sig → AH → Res DV := fun δ S => (fs δ S).bind fun ds S => match ds with
  | [d] => match pairsD d with
    | some kvs => if (kvs.map (·.1)).Nodup then .ok (.c S.length) (S ++ [.dct kvs]) else .bad
    | none => .bad
  | _ => .bad
theorem mergeK_nodup : ∀ (more kvs : List (Key × V)), ((kvs ++ more).map (·.1)).Nodup → mergeK kvs more = kvs ++ more
  | [], kvs, _ => by rw [List.append_nil]; rfl
  | p :: more, kvs, h => by
    have nm : ∀ q ∈ kvs, q.1 ≠ p.1 := fun q hq e => by
      rw [List.map_append, List.nodup_append] at h
      exact h.2.2 q.1 (List.mem_map.mpr ⟨q, hq, rfl⟩) p.1 (by simp) e
    have e : putK kvs p.1 p.2 = kvs ++ [p] := by
      unfold putK
      rw [if_neg]
      intro z
      obtain ⟨q, hq, hz⟩ := List.any_eq_true.mp z
      exact nm q hq (by simpa using hz)
    show mergeK (putK kvs p.1 p.2) more = _
    rw [e, mergeK_nodup more (kvs ++ [p]) (by simpa using h)]
    simp
section
variable {X : Cx}
/-- dict(t) of a tuple of pairs -/
theorem call_dictT (hcalm : X.calm = true) : CallR X (.type "dict") (fun xs H Q => ∃ (a : Addr) (ps : List Addr) (kvs : List (Key × V)), xs = [.ref a] ∧ SqT X.K H a (ps.map V.ref) ∧ tyT X.K (.ref a) H ∧ Paired (fun p kv => SqT X.K H p [kV kv.1, kv.2]) ps kvs ∧
    ∀ p, H p = none → Q (.ref p) (upd H p (.dK (mergeK [] kvs)))) := by
  rintro pins s σ H xs us Q I r ⟨a, ps, kvs, rfl, hq, ty, hp, q⟩
  obtain ⟨u, rfl, rx⟩ := vals1 r
  cases rx
  obtain ⟨its, rv, ⟨o, ho, hc, n, hd⟩, hz⟩ := I.tuple hq
  have ei := refs_at rv
  subst ei
  rw [List.length_map] at hz
  obtain ⟨_, nd⟩ := tyT_is (v := Value.ref a) I (show L2.RelV (V.ref a) (Value.ref a) from rfl) ty
  obtain ⟨o2, ho2, hdn⟩ := nd a rfl
  have eo : o2 = o := Option.some.inj (ho2.symm.trans ho)
  subst eo
  obtain ⟨prs, rel, hl, hpr⟩ := pairs_of I hp
  have items : ∃ rps : List (Value × Value), rps.length = prs.length ∧ ∀ (j : Nat) (k v : Value), rps[j]? = some (k, v) → ∃ (b : Addr) (p : Key × Value), prs[j]? = some p ∧ ps[j]? = some b ∧ p.2 = v ∧ keyIs p.1 k = true ∧ IsTup s.heap b #[k, v] := by
    have go : ∀ (prs : List (Key × Value)) (ps : List Addr), (∀ (j : Nat) (q : Key × Value), prs[j]? = some q → ∃ (b : Addr) (u : Value), ps[j]? = some b ∧ IsTup s.heap b #[u, q.2] ∧ keyIs q.1 u = true) →
        ∃ rps : List (Value × Value), rps.length = prs.length ∧ ∀ (j : Nat) (k v : Value), rps[j]? = some (k, v) → ∃ (b : Addr) (p : Key × Value), prs[j]? = some p ∧ ps[j]? = some b ∧ p.2 = v ∧ keyIs p.1 k = true ∧ IsTup s.heap b #[k, v] := by
      intro prs
      induction prs with
      | nil => intro ps _; exact ⟨[], rfl, fun j k v e => by simp at e⟩
      | cons p prs ih =>
        intro ps h
        obtain ⟨b, u, e1, e2, e3⟩ := h 0 p rfl
        cases ps with
        | nil => simp at e1
        | cons b' ps =>
          obtain ⟨rps, l, f⟩ := ih ps (fun j q e => by simpa using h (j + 1) q (by simpa using e))
          refine ⟨(u, p.2) :: rps, by simp [l], fun j k v e => ?_⟩
          cases j with
          | zero =>
            have e' : (u, p.2) = (k, v) := Option.some.inj e
            cases e'
            exact ⟨b, p, rfl, e1, rfl, e3, e2⟩
          | succ j =>
            obtain ⟨b2, p2, f1, f2, f3⟩ := f j k v (by simpa using e)
            exact ⟨b2, p2, by simpa using f1, by simpa using f2, f3⟩
    exact go prs ps hpr
  obtain ⟨rps, rl, rf⟩ := items
  refine PySem.call_dict_pairs (knd := mixKind X.prog X.w) (kvs := prs) (PairArg.tuple a (ps.map Value.ref).toArray (fun j => ps.getD j 0) rps) (I.ok.hd hcalm) ⟨⟨o2, n, ho, hc, hdn, hd⟩, by simp [rl, hl], fun j k v e => ?_⟩ ⟨rl.symm, fun j k v e => ?_⟩ (by rw [rl, hl]; exact hz) fun h' tk hd' k => ?_
  · obtain ⟨b, p, f1, f2, f3, f4, f5⟩ := rf j k v e
    have gb : ps.getD j 0 = b := by rw [List.getD_eq_getElem?_getD, f2]; rfl
    obtain ⟨ot, h1, h2, m, h3⟩ := f5
    exact ⟨by show (ps.map Value.ref).toArray[j]? = some (Value.ref (ps.getD j 0)); rw [gb]; simp [f2], by show PairAt s.heap (ps.getD j 0) k v; rw [gb]; exact .inl ⟨ot, h1, h2, m, h3⟩⟩
  · obtain ⟨b, p, f1, f2, f3, f4, f5⟩ := rf j k v e
    exact ⟨p.1, by rw [f1, ← f3], f4⟩
  · have hm : (s.heap.objs.size == sysModules) = false := beq_eq_false_iff_ne.mpr (Nat.ne_of_gt I.big)
    have hlen : (mergeK [] kvs).length ≤ sizeLine := by
      have := length_mergeK kvs []
      rw [List.length_nil, Nat.zero_add, rel.length, hl] at this
      omega
    have J := I.laid (t' := tk) (o := .dK (mergeK [] kvs)) (fun b w e => k b w (by simp) e) (Nat.le_refl _) ⟨hlen, hm, merged [] prs, KV.merge rel .nil, hd'⟩
    exact ⟨.ref s.heap.objs.size, _, J, rfl, q _ (I.hok.fresh (Nat.le_refl _))⟩
theorem pairs_rel {M : Wd} {as : As} {H : Hp} : ∀ {xs : List PV} {us : List V} {kvs : List (Int × PV)}, PRs M as H us xs → pairsOf xs = some kvs → ∃ (ps : List Addr) (vs : List V), us = ps.map V.ref ∧ PRs M as H vs (kvs.map (·.2)) ∧ vs.length = us.length ∧ Paired (fun (p : Addr) (kv : Key × V) => SqT M.K H p [kV kv.1, kv.2]) ps (dzip kvs vs)
  | [], us, kvs, r, e => by
    cases r
    have : [] = kvs := Option.some.inj e
    subst this
    exact ⟨[], [], rfl, .nil, rfl, .nil⟩
  | x :: xs, us, kvs, r, e => by
    cases r with
    | cons h t =>
      rename_i u us
      simp only [pairsOf, Option.bind_eq_some_iff, Option.map_eq_some_iff] at e
      obtain ⟨⟨k, v⟩, e1, kvs', e2, rfl⟩ := e
      obtain ⟨ps, vs, rfl, q1, q2, q3⟩ := pairs_rel t e2
      unfold pairOf at e1
      split at e1
      · cases e1
        cases h with
        | tup hr ht =>
          cases ht with
          | cons hk ht =>
            cases hk
            cases ht with
            | cons hv ht =>
              cases ht
              exact ⟨_ :: ps, _ :: vs, rfl, .cons hv q1, by simp [q2], .cons hr.sq q3⟩
      · cases e1
end
section
variable {X : Cx} {E : L2.St → XK} {a b c : Expr} {es : List Expr} {p pos apos cpos : Pos} {x : Str} {fa fb fc : Sig → AH → Res DV} {fs : Sig → AH → Res (List DV)}
theorem de_dict (g : Gd X E) (hg : Gl X "dict") (hm : X.mg "dict" = none) (ha : DA X E (a :: es) fs)
    (he : starEach (a :: es) X.env = (false, eval a X.env) :: starEach es X.env := by rfl) (hpl : (backTo pos (starEach es X.env)).any (·.1) = false := by rfl) : DE X E (.Call (.Name "dict" p) (a :: es) [] pos) (dDict fs) :=
  (pe_callTy (call_dictT g.calm) hg hm (show bootBuiltins "dict" = some (.type "dict") by decide +kernel) ha (by decide) (by decide) he hpl).imp fun σ H Q ⟨as, δ, S, sr, er, w⟩ =>
    ⟨as, δ, S, sr, er, (WR.bind w).mono fun _ _ _ _ _ _ _ _ _ ⟨as1, S1, ds, _, x1, s1, r1, w1⟩ => by
      split at w1
      · rename_i d
        obtain ⟨v, rfl, rv⟩ := DVRs.one r1
        split at w1
        · rename_i kvs e
          split at w1
          · rename_i nd
            unfold pairsD at e
            split at e
            · cases rv with
              | tup h t =>
                obtain ⟨ps, vs, eu, q1, q2, q3⟩ := pairs_rel t e
                subst eu
                have hl : kvs.length = vs.length := by have := q1.length; simpa using this.symm
                have dm : mergeK [] (dzip kvs vs) = dzip kvs vs := by
                  rw [mergeK_nodup]
                  · rfl
                  · rw [List.nil_append]
                    have : (dzip kvs vs).map (·.1) = (kvs.map (·.1)).map Sum.inl := by
                      unfold dzip
                      rw [List.map_fst_zip (by simp [hl]), List.map_map]
                      rfl
                    rw [this]
                    exact nd.map _ (fun _ _ hne z => hne (Sum.inl.inj z))
                refine ⟨_, ps, dzip kvs vs, rfl, h.sq, h.ty, q3, fun p0 n => ?_⟩
                rw [dm]
                have hz : vs.length ≤ sizeLine := by rw [q2]; exact h.1
                exact w1 (as1.add p0) _ _ (ext_any s1 n) (s1.newAny n ⟨vs, hz, upd_same, q1.mono (ext_any s1 n).w⟩) ⟨p0, by rw [← s1.len]; simp [As.add], rfl⟩
            · cases e
          · exact w1.elim
        · exact w1.elim
      · exact w1.elim⟩
def dctOf (d : DV) (S : AH) : Option (List (Int × PV)) := match d with
  | .c n => match S[n]? with
    | some (.dct kvs) => some kvs
    | _ => none
  | _ => none
theorem dct_at {M : Wd} {as : As} {H : Hp} {S : AH} {d : DV} {v : V} {kvs : List (Int × PV)} (s : SR M as H S) (r : DVR M as H v d) (e : dctOf d S = some kvs) : ∃ a vs, v = .ref a ∧ H a = some (.dK (dzip kvs vs)) ∧ PRs M as H vs (kvs.map (·.2)) := by
  unfold dctOf at e
  split at e
  · split at e
    · rename_i n kvs' e2
      cases e
      obtain ⟨b, vs, eb, z, hb, t⟩ := s.atD e2
      obtain ⟨b2, eb2, rfl⟩ := r
      rw [eb] at eb2; cases eb2
      exact ⟨b, vs, rfl, hb, t⟩
    · cases e
  · cases e
/-- d[k] -/
def dGetK (fo fi : Sig → AH → Res DV) : Sig → AH → Res DV := fun δ S => (fo δ S).bind fun d S => (fi δ S).bind fun i S => match i with
  | .p (.int k) => match (dctOf d S).bind fun kvs => lookD kvs k with
    | some p => .ok (.p p) S
    | none => .bad
  | _ => .bad
/-- k in d -/
def dInK (fi fo : Sig → AH → Res DV) : Sig → AH → Res Bool := fun δ S => (fi δ S).bind fun i S => (fo δ S).bind fun d S => match i with
  | .p (.int k) => match dctOf d S with
    | some kvs => .ok (lookD kvs k).isSome S
    | none => .bad
  | _ => .bad
/-- d.get(k, x) -/
def dGet2 (fo fi fx : Sig → AH → Res DV) : Sig → AH → Res DV := fun δ S => (fo δ S).bind fun d S => if (dctOf d S).isSome = true then (fi δ S).bind fun i S => (fx δ S).bind fun x S => match i with
  | .p (.int k) => match dctOf d S with
    | some kvs => match lookD kvs k with
      | some p => .ok (.p p) S
      | none => .ok x S
    | none => .bad
  | _ => .bad
  else .bad
theorem de_getK (hu : X.A.units + 64 < cLine) (ho : DE X E a fa) (hi : DE X E b fb) (hs : NoSl b := by rfl) : DE X E (.Subscript a b pos) (dGetK fa fb) := (pe_dget (by omega) ho hi hs).imp fun σ H Q ⟨as, δ, S, sr, er, w⟩ =>
  ⟨as, δ, S, sr, er, w.bind.mono fun _ _ _ _ _ _ _ _ _ ⟨as1, S1, d1, _, x1, s1, r1, w1⟩ => ⟨as1, δ, S1, s1, er.mono x1.w, w1.bind.mono fun _ _ _ _ _ _ _ _ _ ⟨as2, S2, d2, _, x2, s2, r2, w2⟩ => by
    cases d2 with
    | c _ => exact w2.elim
    | p x =>
      cases x with
      | int k =>
        cases r2
        dsimp only at w2
        split at w2
        · rename_i p e
          simp only [Option.bind_eq_some_iff] at e
          obtain ⟨kvs, e1, e2⟩ := e
          obtain ⟨ad, vs, rfl, hd, t⟩ := dct_at s2 (r1.mono x2.w) e1
          rcases dzip_val t k with ⟨_, q⟩ | ⟨v, p', q1, q2, q3⟩
          · rw [q] at e2; cases e2
          · rw [q2] at e2; cases e2
            refine ⟨ad, v, rfl, ?_, w2.pure s2 q3⟩
            have := DGet.k (k := Sum.inl k) hd
            rw [q1] at this
            exact this
        · exact w2.elim
      | _ => exact w2.elim⟩⟩
theorem in_t {σ : L2.St} {H : Hp} {Q : VK} {as : As} {δ : Sig} {S : AH} (sr : SR (wd X) as H S) (er : ER (wd X) as H σ δ) (w : WR (wd X) (E σ) RB as H (dInK fa fb δ S) fun k H' => Q (.bl k) H') : tDIn (tD (wd X) E fa) (tD (wd X) E fb) σ H Q :=
  ⟨as, δ, S, sr, er, w.bind.mono fun _ _ _ _ _ _ _ _ _ ⟨as1, S1, d1, _, x1, s1, r1, w1⟩ => ⟨as1, δ, S1, s1, er.mono x1.w, w1.bind.mono fun _ _ _ _ _ _ _ _ _ ⟨as2, S2, d2, _, x2, s2, r2, w2⟩ => by
    cases d1 with
    | c _ => exact w2.elim
    | p x =>
      cases x with
      | int k =>
        cases r1
        dsimp only at w2
        split at w2
        · rename_i kvs e1
          obtain ⟨ad, vs, rfl, hd, t⟩ := dct_at s2 r2 e1
          rcases dzip_val t k with ⟨q1, q2⟩ | ⟨v, p', q1, q2, q3⟩
          · refine ⟨ad, none, rfl, ?_, ?_⟩
            · have := DGet.k (k := Sum.inl k) hd
              rw [q1] at this
              exact this
            · rw [q2] at w2
              exact w2.pure s2 rfl
          · refine ⟨ad, some v, rfl, ?_, ?_⟩
            · have := DGet.k (k := Sum.inl k) hd
              rw [q1] at this
              exact this
            · rw [q2] at w2
              exact w2.pure s2 rfl
        · exact w2.elim
      | _ => exact w2.elim⟩⟩
theorem dt_inK (hu : X.A.units + 64 < cLine) (hi : DE X E a fa) (ho : DE X E b fb) (hm : behindInMarks .In b = false) : DT X E (.Compare a [.In] [b] pos) (dInK fa fb) := (pt_cmp (pc_din (by omega) hi ho) hm).imp fun σ H Q ⟨as, δ, S, sr, er, w⟩ => in_t sr er (w.mono fun _ _ _ _ _ _ _ _ _ q => ⟨_, rfl, q⟩)
theorem de_get2 (hu : X.A.units + 64 < cLine) (ho : DE X E a fa) (hi : DE X E b fb) (hx : DE X E c fc) (m : M2 X a "get" apos b c cpos) : DE X E (.Call (.Attribute a "get" apos) [b, c] [] cpos) (dGet2 fa fb fc) := (pe_dget2 (by omega) ho hi hx m).imp fun σ H Q ⟨as, δ, S, sr, er, w⟩ =>
  ⟨as, δ, S, sr, er, w.bind.mono fun _ _ _ _ _ _ _ _ _ ⟨as1, S1, d1, _, x1, s1, r1, w1⟩ => by
    split at w1
    · rename_i hd0
      obtain ⟨kv0, hk0⟩ := Option.isSome_iff_exists.mp hd0
      obtain ⟨ad0, vs0, rfl, hd0', t0⟩ := dct_at s1 r1 hk0
      refine ⟨ad0, rfl, .inl ⟨_, .inl hd0'⟩, as1, δ, S1, s1, er.mono x1.w, w1.bind.mono fun _ _ _ _ _ _ _ _ _ ⟨as2, S2, d2, _, x2, s2, r2, w2⟩ => ⟨as2, δ, S2, s2, (er.mono x1.w).mono x2.w, w2.bind.mono fun _ _ _ _ _ _ _ _ _ ⟨as3, S3, d3, _, x3, s3, r3, w3⟩ => ?_⟩⟩
      cases d2 with
      | c _ => exact w3.elim
      | p x =>
        cases x with
        | int k =>
          cases r2
          dsimp only at w3
          split at w3
          · rename_i kvs e1
            obtain ⟨ad, vs, e, hd, t⟩ := dct_at s3 ((r1.mono x2.w).mono x3.w) e1
            cases e
            rcases dzip_val t k with ⟨q1, q2⟩ | ⟨v, p', q1, q2, q3⟩
            · refine ⟨none, ?_, ?_⟩
              · have := DGet.k (k := Sum.inl k) hd
                rw [q1] at this
                exact this
              · rw [q2] at w3
                exact w3.pure s3 r3
            · refine ⟨some v, ?_, ?_⟩
              · have := DGet.k (k := Sum.inl k) hd
                rw [q1] at this
                exact this
              · rw [q2] at w3
                exact w3.pure s3 q3
          · exact w3.elim
        | _ => exact w3.elim
    · exact w1.elim⟩
end
section
variable {fo fi fx : Sig → AH → Res DV} {fs : Sig → AH → Res (List DV)} {δ : Sig} {S : AH} {kvs : List (Int × PV)} {d : DV} {k : Int} {x : PV}
noncomputable def kDict (ds : List DV) (S : AH) : Res DV := dDict (fun _ S => .ok ds S) [] S
@[simp] theorem ev_dict : dDict fs δ S = (fs δ S).bind kDict := rfl
theorem ev_kDict {xs : List PV} (e : pairsOf xs = some kvs) (nd : (kvs.map (·.1)).Nodup) : kDict [.p (.tup xs)] S = .ok (.c S.length) (S ++ [.dct kvs]) := by
  have e2 : pairsD (.p (.tup xs)) = some kvs := e
  unfold kDict dDict
  simp only [Res.bind, e2]
  rw [if_pos nd]
theorem ev_getK (ho : fo δ S = .ok d S) (hi : fi δ S = .ok (.p (.int k)) S) (hd : dctOf d S = some kvs) (hk : lookD kvs k = some x) : dGetK fo fi δ S = .ok (.p x) S := by
  unfold dGetK
  rw [ho]
  show (fi δ S).bind _ = _
  rw [hi]
  simp [Res.bind, hd, hk]
theorem ev_inK (ho : fo δ S = .ok d S) (hi : fi δ S = .ok (.p (.int k)) S) (hd : dctOf d S = some kvs) : dInK fi fo δ S = .ok (lookD kvs k).isSome S := by
  unfold dInK
  rw [hi]
  show (fo δ S).bind _ = _
  rw [ho]
  simp [Res.bind, hd]
theorem ev_get2 (ho : fo δ S = .ok d S) (hi : fi δ S = .ok (.p (.int k)) S) (hx : fx δ S = .ok (.p x) S) (hd : dctOf d S = some kvs) : dGet2 fo fi fx δ S = .ok (.p ((lookD kvs k).getD x)) S := by
  unfold dGet2
  rw [ho]
  show (if (dctOf d S).isSome = true then _ else _) = _
  rw [hd]
  simp only [Option.isSome_some, if_true]
  rw [hi]
  show (fx δ S).bind _ = _
  rw [hx]
  simp only [Res.bind, hd]
  cases lookD kvs k <;> rfl
end
end DL
/-! D26: defs within defs; t[::k] of a tuple with k 1 or -1. -/
namespace DL
open PySem PySem.Spec PyProof.Rows L2
/-! ### t[::k] -/
section
variable {prog : Program} {w : World} {A : Around} {E : Value → Shared → Prop} {s : Shared}
theorem applied_one {sl : Addr} {u : Tok} {n : Nat} {Q : Int × Int × Nat → Shared → Prop} (hs : s.heap.IsSliceOf sl .none .none (.int 1 u)) (h : Q (0, 1, n) s) :
    wpAny (model prog w) A (Builtin.Slice.sliceApplied (.ref sl) (pure (n : Int))) Q E s := by
  obtain ⟨os, hos, hcs, hds⟩ := id hs
  unfold Builtin.Slice.sliceApplied Builtin.Slice.sliceFields
  refine wpAny_bind (wpAny_bind (wpAny_field hos hds (x := .none) rfl (wpAny_bind (wpAny_field hos hds (x := .none) rfl (wpAny_bind (wpAny_field hos hds (x := .int 1 u) rfl (wpAny_pure ?_)))))))
  refine wpAny_bind (slicePart_int ?_)
  show wpAny _ _ (if ((1 : Int) == 0) = true then _ else _) _ _ s
  rw [if_neg (by decide)]
  refine wpAny_bind (slicePart_none (wpAny_bind (slicePart_none (wpAny_bind (wpAny_pure ?_)))))
  show wpAny _ _ (match Builtin.Slice.sliceAdjust none none 1 (n : Int) with | (lo, hi) => pure (lo, (1 : Int), Builtin.Slice.slicePlaces lo hi 1)) _ _ s
  have e1 : Builtin.Slice.sliceAdjust none none 1 (n : Int) = (0, (n : Int)) := by
    unfold Builtin.Slice.sliceAdjust
    simp
  rw [e1]
  show wpAny _ _ (pure ((0 : Int), (1 : Int), Builtin.Slice.slicePlaces 0 (n : Int) 1)) _ _ s
  have e2 : Builtin.Slice.slicePlaces 0 (n : Int) 1 = n := by
    unfold Builtin.Slice.slicePlaces
    rw [if_pos (by decide)]
    by_cases hn : n = 0
    · subst hn; rw [if_neg (by decide)]; rfl
    · rw [if_pos (by omega)]
      have : ((n : Int) - 0 - 1) / 1 + 1 = n := by rw [Int.ediv_one]; omega
      rw [this]; exact Int.toNat_natCast n
  rw [e2]
  exact wpAny_pure h
theorem getItem_tuple_one {t sl : Addr} {items : Array Value} {u : Tok} {Q : Value → Shared → Prop} (ht : IsTup s.heap t items) (hs : s.heap.IsSliceOf sl .none .none (.int 1 u))
    (h : Q (.ref t) s) : wpAny (model prog w) A (getItem (.ref t) (.ref sl)) Q E s := by
  obtain ⟨os, hos, hcs, hds⟩ := id hs
  have hTs : s.TypeIs (.ref sl) "slice" := ⟨os, hos, hcs⟩
  unfold getItem
  try with_reducible refine wpAny_holding ?_
  first | refine wpAny_bind (wpAny_pure ?_) | skip
  refine wpAny_bind (wpAny_sequenceKey ht.typeIs (by decide) ?_)
  refine wpAny_bind (wpAny_callSpecial?_slot (name := Str.ofString "__getitem__") ht.typeIs PyProof.Rows.slot_tuple_getitem
    (wpAny_call_entry PyProof.Rows.slot_tuple_getitem ht.typeIs entry_tuple_getitem ?_ (args_tuple_getitem _ _)))
  show wpAny _ _ (Builtin.Tuple.tupleItemsOf (.ref t) >>= _) _ _ s
  refine wpAny_bind (tupleItemsOf_ ht ?_)
  refine wpAny_bind (wpAny_typeOf hTs ?_)
  rw [if_pos (by decide)]
  refine wpAny_bind (applied_one hs ?_)
  have hyes : ((0 : Int) == 0 && (1 : Int) == 1 && items.size == items.size) = true := by simp
  show wpAny _ _ (if ((0 : Int) == 0 && (1 : Int) == 1 && items.size == items.size) = true then _ else _) _ _ s
  rw [if_pos hyes]
  refine wpAny_bind ?_
  show wpAny _ _ (typeOf (.ref t) >>= fun T => pure (T == .type "tuple")) _ _ s
  refine wpAny_bind (wpAny_typeOf ht.typeIs (wpAny_pure ?_))
  first
    | rw [if_pos (by decide)]
    | simp only [beq_self_eq_true, if_true]
  first
    | exact wpAny_bind (wpAny_rule (wpAny_pure ⟨_, rfl, wpAny_pure h⟩))
    | exact wpAny_bind (wpAny_rule (wpAny_bind (wpAny_pure (wpAny_pure ⟨_, rfl, wpAny_pure h⟩))))
end
def tStepT (K : PySem.W.Frag) (te : TE) (tk : TO) : TE := fun σ H Q => te σ H fun x H1 => tk σ H1 fun o H2 => ∃ a xs, x = .ref a ∧ SqT K H2 a xs ∧ ((o = some 1 ∧ Q (.ref a) H2) ∨ (o = some (-1) ∧ NewT H2 Q xs.reverse))
theorem pe_stepT {X : Cx} {e k : Expr} {te : TE} {tk : TO} {p3 pos : Pos} (he : PE X e te) (hk : PO X (some k) tk) : PE X (.Subscript e (.Slice none none (some k) p3) pos) (tStepT X.K te tk) := by
  refine ⟨fun pins s σ H Q I h => ?_⟩
  refine Subscript_ (thn (he.run pins s σ H _ I h) fun v s1 ⟨x, H1, I1, r1, q1⟩ => ?_)
  refine wpAny_Slice (thn (po_none.run pins s1 σ H1 (fun o H2 => o = none ∧ H2 = H1) I1 ⟨rfl, rfl⟩) fun vl s2 ⟨l, H2, I2, pl, el, e2⟩ => ?_)
  subst el e2
  refine thn (po_none.run pins s2 σ H2 (fun o H3 => o = none ∧ H3 = H2) I2 ⟨rfl, rfl⟩) fun vu s3 ⟨u, H3, I3, pu, eu, e3⟩ => ?_
  subst eu e3
  refine thn (hk.run pins s3 σ H3 _ I3 q1) fun vs s4 ⟨o, H4, I4, ps, q4⟩ => ?_
  obtain ⟨a, xs, ex, hx, q⟩ := q4
  subst ex
  cases r1
  have I5 : Inv X pins σ H4 { s4 with heap := s4.heap.push { cls := .type "slice", data := .fields #[vl, vu, vs] } } := I4.kept (t' := s4.toks) fun b ob q => Heap.get?_push_of_some _ q
  obtain ⟨its, r, ht, hz⟩ := I5.tuple hx
  have hlen := r.length
  cases pl
  cases pu
  rcases q with ⟨eo, q⟩ | ⟨eo, q⟩
  · subst eo
    obtain ⟨t5, rfl⟩ : ∃ t, vs = Value.int 1 t := by cases ps; exact ⟨_, rfl⟩
    show wpAny (model X.prog X.w) X.A (subscriptTail e (.Slice none none (some k) p3) (.ref a) (.ref s4.heap.objs.size)) (EP X pins σ Q) X.xe _
    refine tail_any (ops := [.ref a, .ref s4.heap.objs.size]) ht.typeIs (PyProof.Rows.slot_tuple_getitem.lookup) ?_ (by with_unfolding_all rfl)
    refine getItem_tuple_one ht (Heap.IsSliceOf.new _ .none .none _) ?_
    exact ⟨.ref a, H4, I5, rfl, q⟩
  · subst eo
    obtain ⟨t5, rfl⟩ : ∃ t, vs = Value.int (-1) t := by cases ps; exact ⟨_, rfl⟩
    show wpAny (model X.prog X.w) X.A (subscriptTail e (.Slice none none (some k) p3) (.ref a) (.ref s4.heap.objs.size)) (EP X pins σ Q) X.xe _
    refine tail_any (ops := [.ref a, .ref s4.heap.objs.size]) ht.typeIs (PyProof.Rows.slot_tuple_getitem.lookup) ?_ (by with_unfolding_all rfl)
    refine getItem_tuple_rev ht (Heap.IsSliceOf.new _ .none .none _) ?_ (by rw [List.size_toArray]; omega)
    exact lay_tup I5 (by rw [List.length_reverse]; exact hz) r.reverse q
/-- t[::k] -/
def dStep (fo fk : Sig → AH → Res DV) : Sig → AH → Res DV := fun δ S => (fo δ S).bind fun d S => (fk δ S).bind fun i S => match d, i with
  | .p (.tup xs), .p (.int 1) => .ok (.p (.tup xs)) S
  | .p (.tup xs), .p (.int (-1)) => .ok (.p (.tup xs.reverse)) S
  | _, _ => .bad
section
variable {X : Cx} {E : L2.St → XK} {a k : Expr} {p3 pos : Pos} {fa fk : Sig → AH → Res DV}
theorem de_step (ha : DE X E a fa) (hk : DE X E k fk) : DE X E (.Subscript a (.Slice none none (some k) p3) pos) (dStep fa fk) := (pe_stepT ha (po_some hk)).imp fun σ H Q ⟨as, δ, S, sr, er, w⟩ =>
  ⟨as, δ, S, sr, er, w.bind.mono fun _ _ _ _ _ _ _ _ _ ⟨as1, S1, d1, _, x1, s1, r1, w1⟩ => ⟨as1, δ, S1, s1, er.mono x1.w, w1.bind.mono fun _ _ _ _ _ _ _ _ _ ⟨as2, S2, d2, _, x2, s2, r2, w2⟩ => by
    split at w2
    · cases r2
      have r3 := r1.mono x2.w
      cases r3 with
      | tup h t => exact ⟨1, rfl, _, _, rfl, h.sq, .inl ⟨rfl, w2.pure s2 (.tup h t)⟩⟩
    · cases r2
      have r3 := r1.mono x2.w
      cases r3 with
      | tup h t => exact ⟨-1, rfl, _, _, rfl, h.sq, .inr ⟨rfl, WO.tup (ps := _) (S := S2) (fun as' H' b => w2 as' H' b) s2 (by rw [List.length_reverse]; exact h.1) t.reverse⟩⟩
    · exact w2.elim⟩⟩
end

/-! ### statements that keep a local def -/
open NdefX
/-- the slot i holds the cell of the function F -/
def Fr (i : Nat) (F : Addr → NF) (as : As) (H : Hp) (δ : Sig) : Prop := ∃ n a c', δ[i]? = some (some (.c n)) ∧ as.cells[n]? = some a ∧ H a = some (FnO a (F c')) ∧ H c' = some (LamX.CodeO c' (F c').qual)
theorem Fr.later {i : Nat} {F : Addr → NF} {as as' : As} {H H' : Hp} {δ δ' : Sig} (h : Fr i F as H δ) (x : Ext as H as' H') (k : δ'[i]? = δ[i]?) : Fr i F as' H' δ' := by
  obtain ⟨n, a, c', h1, h2, h3, h4⟩ := h
  exact ⟨n, a, c', by rw [k]; exact h1, x.get h2, x.exts a _ h3, x.exts c' _ h4⟩
def KpO (i : Nat) (δ : Sig) : Out → Prop
  | .nx δ' _ => δ'[i]? = δ[i]?
  | .bk δ' _ => δ'[i]? = δ[i]?
  | .ct δ' _ => δ'[i]? = δ[i]?
  | _ => True
/-- the slot i stays -/
def Kp (i : Nat) (f : Sig → AH → Out) : Prop := ∀ δ S, KpO i δ (f δ S)
def tSF (M : Wd) (E : L2.St → XK) (i : Nat) (F : Addr → NF) (f : Sig → AH → Out) : TS := fun D σ H => ∃ as δ S, SR M as H S ∧ ER M as H σ δ ∧ Fr i F as H δ ∧ WS M E D as H (f δ S)
abbrev DSF (X : Cx) (E : L2.St → XK) (i : Nat) (F : Addr → NF) (st : Stmt) (f : Sig → AH → Out) : Prop := PS X st (tSF (wd X) E i F f) ∧ Kp i f
abbrev DSFs (X : Cx) (E : L2.St → XK) (i : Nat) (F : Addr → NF) (st : List Stmt) (f : Sig → AH → Out) : Prop := PSs X st (tSF (wd X) E i F f) ∧ Kp i f
section
variable {X : Cx} {E : L2.St → XK} {i j : Nat} {F : Addr → NF} {st : Stmt} {rest body : List Stmt} {f g fb : Sig → AH → Out} {fe : Sig → AH → Res DV} {fc : Sig → AH → Res Bool} {fi : Sig → AH → Res Its'} {q : Pat} {c tg iter : Expr} {pos : Pos}
theorem dsf_of (h : DS X E st f) (k : Kp i f) : DSF X E i F st f := ⟨h.imp fun D σ H ⟨as, δ, S, sr, er, _, w⟩ => ⟨as, δ, S, sr, er, w⟩, k⟩
theorem kp_seq (h1 : Kp i f) (h2 : Kp i g) : Kp i (dSeq f g) := fun δ S => by
  have a := h1 δ S
  unfold dSeq
  cases e : f δ S with
  | nx δ1 S1 =>
    rw [e] at a
    have b := h2 δ1 S1
    show KpO i δ (g δ1 S1)
    cases e2 : g δ1 S1 with
    | nx δ2 S2 => rw [e2] at b; exact Eq.trans b a
    | bk δ2 S2 => rw [e2] at b; exact Eq.trans b a
    | ct δ2 S2 => rw [e2] at b; exact Eq.trans b a
    | _ => trivial
  | bk δ1 S1 => rw [e] at a; exact a
  | ct δ1 S1 => rw [e] at a; exact a
  | _ => trivial
theorem dsfs_one (h : DSF X E i F st f) : DSFs X E i F [st] f := ⟨pss_one h.1, h.2⟩
theorem dsfs_cons (h1 : DSF X E i F st f) (h2 : DSFs X E i F rest g) : DSFs X E i F (st :: rest) (dSeq f g) := ⟨(pss_cons h1.1 h2.1).imp fun D σ H ⟨as, δ, S, sr, er, fr, w⟩ => by
  refine ⟨as, δ, S, sr, er, fr, ?_⟩
  have kp := h1.2 δ S
  unfold dSeq at w
  split at w
  · rename_i δ1 S1 eq
    rw [eq] at kp ⊢
    exact fun as' H' σ' x s r => ⟨as', δ1, S1, s, r, fr.later x kp, WS.later x w⟩
  · rename_i n
    cases eq : f δ S with
    | nx δ1 S1 => exact absurd eq (n _ _)
    | rt d S1 => rw [eq] at w; exact w
    | rtT d S1 => rw [eq] at w; exact w
    | bk δ1 S1 => rw [eq] at w; exact w
    | ct δ1 S1 => rw [eq] at w; exact w
    | exc c p δ1 S1 => rw [eq] at w; exact w
    | bad => rw [eq] at w; exact w, kp_seq h1.2 h2.2⟩
theorem kp_out {α : Type} {r : Res α} {δ : Sig} {k : α → AH → Out} (h : ∀ a S, KpO i δ (k a S)) : KpO i δ (r.out δ k) := by
  cases r with
  | ok a S => exact h a S
  | exc c p S => trivial
  | bad => trivial
theorem kp_drop : Kp i (dDrop fe) := fun δ S => kp_out fun _ _ => rfl
theorem kp_ret : Kp i (dRet fe) := fun δ S => kp_out fun _ _ => trivial
theorem kp_pass : Kp i dPass := fun δ S => rfl
theorem kp_set (h : j ≠ i) : Kp i (dSet j fe) := fun δ S => kp_out fun d S => by
  show (δ.set j (some d))[i]? = δ[i]?
  rw [List.getElem?_set_ne h]
theorem kp_if (h1 : Kp i f) (h2 : Kp i g) : Kp i (dIf fc f g) := fun δ S => kp_out fun b S => by
  cases b with
  | true => exact h1 δ S
  | false => exact h2 δ S
theorem kp_whN (h : Kp i fb) : ∀ (n : Nat) (δ : Sig) (S : AH), KpO i δ (whN fc fb n δ S)
  | 0, δ, S => trivial
  | n + 1, δ, S => kp_out fun b S1 => by
    cases b with
    | false => exact rfl
    | true =>
      show KpO i δ (match fb δ S1 with
        | .nx δ2 S2 => whN fc fb n δ2 S2
        | .ct δ2 S2 => whN fc fb n δ2 S2
        | .bk δ2 S2 => .nx δ2 S2
        | o => o)
      have a := h δ S1
      have go : ∀ (δ2 : Sig) (S2 : AH), δ2[i]? = δ[i]? → KpO i δ (whN fc fb n δ2 S2) := fun δ2 S2 e => by
        have b := kp_whN h n δ2 S2
        cases e2 : whN fc fb n δ2 S2 with
        | nx δ3 S3 => rw [e2] at b; exact Eq.trans b e
        | bk δ3 S3 => rw [e2] at b; exact Eq.trans b e
        | ct δ3 S3 => rw [e2] at b; exact Eq.trans b e
        | _ => trivial
      cases e : fb δ S1 with
      | nx δ2 S2 => rw [e] at a; exact go _ _ a
      | ct δ2 S2 => rw [e] at a; exact go _ _ a
      | bk δ2 S2 => rw [e] at a; exact a
      | _ => trivial
theorem kp_while (h : Kp i fb) : Kp i (dWhile fc fb) := fun δ S => by
  by_cases e : ∃ n, whN fc fb n δ S ≠ .bad
  · obtain ⟨n, hn⟩ := e
    rw [dWhile_at hn]
    exact kp_whN h n δ S
  · rw [dWhile_bad fun n => Classical.byContradiction fun z => e ⟨n, z⟩]
    trivial
end

mutual
theorem set_keep {i : Nat} : ∀ (q : Pat) {d : DV} {δ δ' : Sig}, q.set d δ = some δ' → i ∉ q.slots → δ'[i]? = δ[i]?
  | .nm j, d, δ, δ', e, h => by
    simp only [Pat.set, Option.some.injEq] at e
    subst e
    rw [List.getElem?_set_ne fun z => h (by simp [Pat.slots, z])]
  | .tp ps, d, δ, δ', e, h => by
    unfold Pat.set at e
    split at e
    · exact sets_keep ps e h
    · exact sets_keep ps e h
    · cases e
theorem sets_keep {i : Nat} : ∀ (qs : List Pat) {ds : List DV} {δ δ' : Sig}, Pat.sets qs ds δ = some δ' → i ∉ Pat.slotss qs → δ'[i]? = δ[i]?
  | [], [], δ, δ', e, _ => by
    simp only [Pat.sets, Option.some.injEq] at e
    rw [e]
  | [], _ :: _, δ, δ', e, _ => by simp [Pat.sets] at e
  | q :: qs, [], δ, δ', e, _ => by simp [Pat.sets] at e
  | q :: qs, x :: xs, δ, δ', e, h => by
    simp only [Pat.sets, Option.bind_eq_some_iff] at e
    obtain ⟨δ1, e1, e2⟩ := e
    rw [sets_keep qs e2 fun z => h (by simp [Pat.slotss, z]), set_keep q e1 fun z => h (by simp [Pat.slotss, z])]
end
section
variable {X : Cx} {E : L2.St → XK} {l j : Nat} {F : Addr → NF} {st : Stmt} {rest body : List Stmt} {f g fb : Sig → AH → Out} {fe : Sig → AH → Res DV} {fc : Sig → AH → Res Bool} {fi : Sig → AH → Res Its'} {q : Pat} {c tg iter e : Expr} {pos : Pos}
theorem kp_forGo {ck : AH → Prop} (h : Kp l fb) (hq : l ∉ q.slots) : ∀ (xs : List DV) (δ : Sig) (S : AH), KpO l δ (forGo ck q fb xs δ S)
  | [], δ, S => by
    unfold forGo
    split
    · exact rfl
    · trivial
  | x :: xs, δ, S => by
    unfold forGo
    split
    · cases e : q.set x δ with
      | none => trivial
      | some δ1 =>
        have k1 := set_keep q e hq
        have a := h δ1 S
        have go : ∀ (δ2 : Sig) (S2 : AH), δ2[l]? = δ1[l]? → KpO l δ (forGo ck q fb xs δ2 S2) := fun δ2 S2 e2 => by
          have b := kp_forGo (ck := ck) h hq xs δ2 S2
          cases e3 : forGo ck q fb xs δ2 S2 with
          | nx δ3 S3 => rw [e3] at b; exact Eq.trans b (Eq.trans e2 k1)
          | bk δ3 S3 => rw [e3] at b; exact Eq.trans b (Eq.trans e2 k1)
          | ct δ3 S3 => rw [e3] at b; exact Eq.trans b (Eq.trans e2 k1)
          | _ => trivial
        show KpO l δ (match fb δ1 S with
          | .nx δ2 S2 => forGo ck q fb xs δ2 S2
          | .ct δ2 S2 => forGo ck q fb xs δ2 S2
          | .bk δ2 S2 => .nx δ2 S2
          | o => o)
        cases eb : fb δ1 S with
        | nx δ2 S2 => rw [eb] at a; exact go _ _ a
        | ct δ2 S2 => rw [eb] at a; exact go _ _ a
        | bk δ2 S2 => rw [eb] at a; exact Eq.trans a k1
        | _ => trivial
    · trivial
theorem kp_for (h : Kp l fb) (hq : l ∉ q.slots) : Kp l (dFor fi q fb) := fun δ S => kp_out fun x S1 => kp_forGo h hq x.1 δ S1
theorem dsf_while (g : Gd X E) (hc : DT X E c fc) (hb : DSFs X E l F body fb) : DSF X E l F (.While c body [] pos) (dWhile fc fb) :=
  ⟨(ps_while g.po hc hb.1).imp fun D σ H ⟨as, δ, S, sr, er, fr, w⟩ => by
  have ex : ∃ n, whN fc fb n δ S ≠ .bad := by
    refine Classical.byContradiction fun q => ?_
    rw [dWhile_bad fun n => Classical.byContradiction fun z => q ⟨n, z⟩] at w
    exact w
  obtain ⟨n, hn⟩ := ex
  rw [dWhile_at hn] at w
  refine ⟨fun m σ H => ∃ as δ S, SR (wd X) as H S ∧ ER (wd X) as H σ δ ∧ Fr l F as H δ ∧ WS (wd X) E D as H (whN fc fb m δ S), ⟨n, as, δ, S, sr, er, fr, w⟩, ?_⟩
  rintro m σ H ⟨as, δ, S, sr, er, fr, w⟩
  cases m with
  | zero => exact w.elim
  | succ m =>
    unfold whN at w
    refine ⟨as, δ, S, sr, er, (w.bind er).mono fun _ _ _ H1 k _ _ _ _ ⟨as1, S1, d1, _, x1, s1, r1, w1⟩ => ?_⟩
    cases r1
    cases k with
    | false => exact w1.here s1 (er.mono x1.w)
    | true =>
      rw [if_pos rfl] at w1 ⊢
      have fr1 := fr.later x1 rfl
      refine ⟨fun σ H => ∃ as δ S, SR (wd X) as H S ∧ ER (wd X) as H σ δ ∧ Fr l F as H δ ∧ WS (wd X) E D as H (whN fc fb m δ S), fun σ' H' h => ⟨m, Nat.lt_succ_self m, h⟩, as1, δ, S1, s1, er.mono x1.w, fr1, ?_⟩
      have kp := hb.2 δ S1
      cases eb : fb δ S1 with
      | nx δ4 S4 =>
        rw [eb] at w1 kp
        exact fun as' H' σ' x s r => ⟨as', δ4, S4, s, r, fr1.later x kp, WS.later x w1⟩
      | ct δ4 S4 =>
        rw [eb] at w1 kp
        exact fun as' H' σ' x s r => ⟨as', δ4, S4, s, r, fr1.later x kp, WS.later x w1⟩
      | bk δ4 S4 =>
        rw [eb] at w1
        exact fun as' H' σ' x s r => w1 as' H' σ' x s r
      | rt d S4 =>
        rw [eb] at w1
        exact fun as' H' v x s r => w1 as' H' v x s r
      | rtT d S4 =>
        rw [eb] at w1
        exact fun as' H' v x s r => w1 as' H' v x s r
      | exc c p δ4 S4 =>
        rw [eb] at w1
        exact fun as' H' σ' cls dd x s r => w1 as' H' σ' cls dd x s r
      | bad => rw [eb] at w1; exact w1.elim, kp_while hb.2⟩
theorem dsf_for (g : Gd X E) (hi : DI X E tg iter fi) (hg : DG X tg q) (hb : DSFs X E l F body fb) (hq : l ∉ q.slots := by decide) (hs : ∀ x, foldedSetIterable iter X.env x = pure x := by intro _; rfl) : DSF X E l F (.For tg iter body [] pos) (dFor fi q fb) :=
  ⟨(ps_for g.po g.calm hi hg hb.1 hs).imp fun D σ H ⟨as, δ, S, sr, er, fr, w⟩ =>
  ⟨as, δ, S, sr, er, (w.bind er).mono fun _ _ _ H1 J _ _ _ _ ⟨as1, S1, x, _, e1, s1, y1, w1⟩ => by
    obtain ⟨xs, ck⟩ := x
    dsimp only at y1 w1
    refine ⟨fun i m σ H => m = xs.length - i ∧ i ≤ xs.length ∧ ∃ as' δ' S', Ext as1 H1 as' H ∧ SR (wd X) as' H S' ∧ ER (wd X) as' H σ δ' ∧ Fr l F as' H δ' ∧ WS (wd X) E D as' H (forGo ck q fb (xs.drop i) δ' S'), ⟨xs.length, rfl, Nat.zero_le _, as1, δ, S1, Ext.refl _ _, s1, er.mono e1.w, fr.later e1 rfl, w1⟩, ?_⟩
    rintro i m σ H ⟨rfl, hi, as2, δ2, S2, e2, s2, er2, fr2, w2⟩
    by_cases hlt : i < xs.length
    · have hx : xs[i]? = some xs[i] := List.getElem?_eq_getElem hlt
      have hd : xs.drop i = xs[i] :: xs.drop (i + 1) := List.drop_eq_getElem_cons hlt
      rw [hd] at w2
      unfold forGo at w2
      have hck : ck S2 := by
        refine Classical.byContradiction fun n => ?_
        rw [if_neg n] at w2
        exact w2
      rw [if_pos hck] at w2
      refine .inr ⟨y1.go _ _ _ e2.w s2 hck i hlt, fun σ H => i + 1 ≤ xs.length ∧ ∃ as' δ' S', Ext as1 H1 as' H ∧ SR (wd X) as' H S' ∧ ER (wd X) as' H σ δ' ∧ Fr l F as' H δ' ∧ WS (wd X) E D as' H (forGo ck q fb (xs.drop (i + 1)) δ' S'), fun σ' H' n => ⟨xs.length - (i + 1), by omega, rfl, n.1, n.2⟩, fun v H' yv => ?_⟩
      obtain ⟨e3, s3, r3⟩ := y1.yld _ _ _ e2.w s2 hck i _ v H' hx yv
      cases eq : q.set xs[i] δ2 with
      | none => rw [eq] at w2; exact w2.elim
      | some δ3 =>
        rw [eq] at w2
        dsimp only at w2
        have fr3 := fr2.later e3 (set_keep q eq hq)
        refine tPat_ok (M := wd X) q (er2.mono e3.w) r3 eq fun σ3 er3 _ => ⟨as2, δ3, S2, s3, er3, fr3, ?_⟩
        have kp := hb.2 δ3 S2
        cases eb : fb δ3 S2 with
        | nx δ4 S4 =>
          rw [eb] at w2 kp
          exact fun as' H' σ' x s r => ⟨hlt, as', δ4, S4, (e2.trans e3).trans x, s, r, fr3.later x kp, WS.later (e3.trans x) w2⟩
        | ct δ4 S4 =>
          rw [eb] at w2 kp
          exact fun as' H' σ' x s r => ⟨hlt, as', δ4, S4, (e2.trans e3).trans x, s, r, fr3.later x kp, WS.later (e3.trans x) w2⟩
        | bk δ4 S4 =>
          rw [eb] at w2
          exact fun as' H' σ' x s r => w2 as' H' σ' (e3.trans x) s r
        | rt d S4 =>
          rw [eb] at w2
          exact fun as' H' v x s r => w2 as' H' v (e3.trans x) s r
        | rtT d S4 =>
          rw [eb] at w2
          exact fun as' H' v x s r => w2 as' H' v (e3.trans x) s r
        | exc c p δ4 S4 =>
          rw [eb] at w2
          exact fun as' H' σ' cls dd x s r => w2 as' H' σ' cls dd (e3.trans x) s r
        | bad => rw [eb] at w2; exact w2.elim
    · have hi' : i = xs.length := by omega
      subst hi'
      rw [List.drop_length] at w2
      unfold forGo at w2
      have hck : ck S2 := by
        refine Classical.byContradiction fun n => ?_
        rw [if_neg n] at w2
        exact w2
      rw [if_pos hck] at w2
      exact .inl ⟨y1.stop _ _ _ e2.w s2 hck, w2.here s2 er2⟩⟩, kp_for hb.2 hq⟩
/-! ### calls of a local def -/
def tDF (M : Wd) (E : L2.St → XK) (l : Nat) (F : Addr → NF) (f : Sig → AH → Res DV) : TE := fun σ H Q => ∃ as δ S, SR M as H S ∧ ER M as H σ δ ∧ Fr l F as H δ ∧ WR M (E σ) (DVR M) as H (f δ S) Q
theorem dsf_expr (he : PE X e (tDF (wd X) E l F fe)) (hs : swapsWith e none pos.line X.env = pure false := by rfl) : DSF X E l F (.Expr e pos) (dDrop fe) := ⟨(ps_expr he hs).imp fun D σ H ⟨as, δ, S, sr, er, fr, w⟩ =>
  ⟨as, δ, S, sr, er, fr, (w.bind er).mono fun _ _ _ _ _ _ _ _ _ ⟨as1, S1, d1, _, x1, s1, r1, w1⟩ => w1.here s1 (er.mono x1.w)⟩, kp_drop⟩
end
/-- what a slot holds -/
def slotD (δ : Sig) (j : Nat) : Option DV := match δ[j]? with
  | some o => o
  | none => none
def CRs (M : Wd) (as : As) (H : Hp) : List (Option V) → List (Option DV) → Prop := Paired fun (w : Option V) (c : Option DV) => ∀ d, c = some d → ∃ v, w = some v ∧ DVR M as H v d
def spN (M : Wd) (d : List DV → List (Option DV) → AH → Res DV) : Addr → List (Option V) → Sp := fun _ ws vs H Q E => ∃ as ds cs S, SR M as H S ∧ DVRs M as H vs ds ∧ CRs M as H ws cs ∧ WR M E (DVR M) as H (d ds cs S) Q
def dCallN (js : List Nat) (d : List DV → List (Option DV) → AH → Res DV) (fs : Sig → AH → Res (List DV)) : Sig → AH → Res DV := fun δ S => (fs δ S).bind fun ds S => d ds (js.map (slotD δ)) S
theorem crs_slots {M : Wd} {as : As} {H : Hp} {σ : L2.St} {δ : Sig} (er : ER M as H σ δ) : ∀ js : List Nat, CRs M as H (js.map (slotAt σ)) (js.map (slotD δ))
  | [] => .nil
  | j :: js => .cons (fun d e => by
    unfold slotD at e
    cases e2 : δ[j]? with
    | none => rw [e2] at e; cases e
    | some o =>
      rw [e2] at e
      have e : o = some d := e
      subst e
      obtain ⟨v, h1, h2⟩ := er.get j d e2
      exact ⟨v, slotAt_of h1, h2⟩) (crs_slots er js)
section
variable {X : Cx} {E0 : XK} {l k m : Nat} {F : Addr → NF} {x : Str} {ps fr : List Str} {js : List Nat} {d : List DV → List (Option DV) → AH → Res DV} {fs : Sig → AH → Res (List DV)} {e : Expr} {es : List Expr} {p pos : Pos}
theorem pe_callN {cl : List (Str × Addr)} (g : Gd X (fun _ => E0)) (Fn : ∀ f c', NOk X.prog X.w X.K X.mg X.base (L2.CX X.prog X.w) k f (F c') ps fr (spN (wd X) d f)) (hcl : ∀ c', (F c').cl = cl) (hc : ∀ c', (F c').c = c') (cp : X.Ok → Caps X cl fr js) (hr : Room m X.A) (hk : k ≤ m) (hN : X.N[l]? = some x) (hv : Vis X.env.scope x) (ha : DA X (fun _ => E0) (e :: es) fs)
    (hd : (x == ("__debug__" : Str)) = false := by decide) (hcd : (x == ("__classdict__" : Str)) = false := by decide)
    (he : starEach (e :: es) X.env = (false, eval e X.env) :: starEach es X.env := by rfl) (hpl : (backTo pos (starEach es X.env)).any (·.1) = false := by rfl) :
    PE X (.Call (.Name x p) (e :: es) [] pos) (tDF (wd X) (fun _ => E0) l F (dCallN js d fs)) :=
  (pe_calln (E := E0) (sp := fun f _ => spN (wd X) d f) Fn hcl cp hr hk (fun pins σ H s e s' I c => g.pass σ pins H s e s' I c) hN hv ha hd hcd he hpl).imp fun σ H Q ⟨as, δ, S, sr, er, fr, w⟩ => by
    obtain ⟨n, a, c', h1, h2, h3, h4⟩ := id fr
    obtain ⟨v, hv1, a2, ha2, rfl⟩ := er.get l _ h1
    rw [h2] at ha2
    cases ha2
    refine ⟨a, c', hv1, h3, as, δ, S, sr, er, w.bind.mono fun _ _ _ _ _ _ _ _ _ ⟨as1, S1, ds, _, x1, s1, r1, w1⟩ => ⟨x1.exts a _ h3, by rw [hc]; exact x1.exts c' _ h4, as1, ds, _, S1, s1, r1, crs_slots (er.mono x1.w) js, w1⟩⟩
end
/-! ### the body of a local def -/
noncomputable def dLoc (nN n m : Nat) (keep : Bool) (body : Sig → AH → Out) : List DV → List (Option DV) → AH → Res DV := fun ds cs S => if ds.length = n ∧ cs.length = m then gcK S keep (body (ds.map some ++ (cs ++ List.replicate (nN - n - m) none)) S) else .bad
theorem er_startF {M : Wd} {as : As} {H : Hp} {N : List Str} {vs : List V} {ds : List DV} {ws : List (Option V)} {cs : List (Option DV)} (r : DVRs M as H vs ds) (q : CRs M as H ws cs) {n m : Nat} (hn : ds.length = n) (hm : cs.length = m) : ER M as H (startF N vs ws) (ds.map some ++ (cs ++ List.replicate (N.length - n - m) none)) := by
  have hl : vs.length = ds.length := Paired.length r
  have hw : ws.length = cs.length := Paired.length q
  unfold startF
  refine ⟨by simp [hl, hw, hn, hm], fun i d e => ?_⟩
  by_cases hi : i < ds.length
  · rw [List.getElem?_append_left (by simpa using hi), List.getElem?_map] at e
    have hi' : i < vs.length := by omega
    rw [List.getElem?_append_left (by simpa using hi'), List.getElem?_map]
    rw [List.getElem?_eq_getElem hi] at e
    rw [List.getElem?_eq_getElem hi']
    have go : ∀ {vs : List V} {ds : List DV}, DVRs M as H vs ds → ∀ (i : Nat) (h1 : i < vs.length) (h2 : i < ds.length), DVR M as H vs[i] ds[i] := by
      intro vs ds r
      induction r with
      | nil => intro i h1; exact absurd h1 (by simp)
      | cons h t ih =>
        intro i h1 h2
        cases i with
        | zero => exact h
        | succ i => exact ih i (by simpa using h1) (by simpa using h2)
    have e' : ds[i] = d := by simpa using e
    exact ⟨vs[i], rfl, by rw [← e']; exact go r i hi' hi⟩
  · have hi2 : ¬ i < vs.length := by omega
    rw [List.getElem?_append_right (by simpa using hi), List.length_map] at e
    rw [List.getElem?_append_right (by simpa using hi2), List.length_map, hl]
    by_cases hj : i - ds.length < cs.length
    · rw [List.getElem?_append_left hj] at e
      rw [List.getElem?_append_left (by omega)]
      have go : ∀ {ws : List (Option V)} {cs : List (Option DV)}, CRs M as H ws cs → ∀ (j : Nat) (d : DV), cs[j]? = some (some d) → ∃ v, ws[j]? = some (some v) ∧ DVR M as H v d := by
        intro ws cs q
        induction q with
        | nil => intro j d h1; simp at h1
        | cons h t ih =>
          intro j d h1
          cases j with
          | zero =>
            obtain ⟨v, e1, e2⟩ := h d (by simpa using h1)
            exact ⟨v, by simpa using e1, e2⟩
          | succ j => simpa using ih j d (by simpa using h1)
      exact go q _ d e
    · rw [List.getElem?_append_right (by omega), List.getElem?_replicate] at e
      split at e <;> cases e
section
variable {P : Program} {w : World} {K : PySem.W.Frag} {mg : Str → Option Value} {base : Heap}
/-- a local def by its body -/
theorem loc_ok {F : NF} {f : Addr} {N ps fr : List Str} {k n m nN : Nat} {keep : Bool} {body : Sig → AH → Out} (S : NScope N ps fr F.scope) (hb : ∀ (doc pm ctv : Value) (us : List Value), us.length = ps.length → bindArgs (F.fd doc pm ctv) ⟨us, []⟩ = pure (ps.zip us)) (hn : n = ps.length) (hm : m = fr.length) (hN : nN = N.length)
    (hbody : ∀ (A : Around) (outer : List Env) (s : Shared) (H : Hp) (E : XK), Room k (A.deeper (envF F f s.heap.objs.size)) → Gd (ncx (L2.CX P w) P w K mg base N F f A outer s H E) (fun _ => E) → DSs (ncx (L2.CX P w) P w K mg base N F f A outer s H E) (fun _ => E) F.body body) :
    NOk P w K mg base (L2.CX P w) (k + 1) f F ps fr (spN ⟨K, mg⟩ (dLoc nN n m keep body) f) := by
  subst hn hm hN
  refine nok_of S hb (fun ws vs H Q E h => ?_) fun A outer s H vs ws Q E hr hf hc hw h => ?_
  · obtain ⟨as, ds, cs, S, sr, r, q, w⟩ := h
    unfold dLoc at w
    split at w
    · rename_i e
      rw [← e.1]
      exact Paired.length r
    · exact w.elim
  · refine ⟨_, hbody A outer s H E hr ⟨rfl, takes_of rfl rfl rfl rfl, passes_of rfl⟩, ?_⟩
    obtain ⟨as, ds, cs, S, sr, r, q, w⟩ := h
    unfold dLoc at w
    split at w
    · rename_i e
      exact ⟨as, _, S, sr, er_startF r q e.1 e.2, gc_ok sr w⟩
    · exact w.elim
end
end DL
/-! D27: the def statement within a def; a def whose code object is known; the end with the table of one def. -/
namespace DL
open PySem PySem.Spec PyProof.Rows L2 NdefX LamX
/-! ### the statement -/
section
variable {X : Cx} {pins : List (Addr × Obj)} {σ : L2.St} {H : Hp} {s : Shared}
theorem ndef_makeP {q : Str} {c P : Addr} {name : Str} {params : Arguments} {body : List Stmt} {scope : Scope} {pos : Pos} {E : Value → Shared → Prop} {Q : Value → Shared → Prop} (I : Inv X pins σ H s) (TB : TabB X.base X.mg c P) (hcode : X.env.code = .ref c)
    (hn : q = X.env.qual ++ name) (hT : TabN H P (fun _ _ => q)) (hfree : ∀ y ∈ scope.names, y.2 = .free → ∃ c, X.env.cells.lookup y.1 = some c)
    (h : ∀ (f c' : Addr) (H1 : Hp) (s' : Shared), Inv X pins σ H1 s' → (∀ b o, b ≠ P → H b = some o → H1 b = some o) → TabN H1 P (fun _ _ => q) → H f = none → H1 f = some (FnO f ⟨name, X.env.qual ++ name, params, body, scope, cloFrom X.env.cells scope.names [], c'⟩) → H1 c' = some (CodeO c' (X.env.qual ++ name)) → Q (.ref f) s') :
    wpAny (model X.prog X.w) X.A (makeFunction name (X.env.qual ++ name) params (.stmts body) scope X.env [] [] [] pos pos.line) Q E s := by
  obtain ⟨ps, hP, ht, ha⟩ := id hT
  have bP : s.heap.BuiltinsAt X.mg P := TB.bm.keeps I.bk
  have hP' : s.heap.get? P = some { cls := .none, data := .fields ps } := I.hok P _ hP
  cases hc : codeAmong pos ps.toList with
  | none =>
    refine PySem.W.makeFunction_K (mg := X.mg) (c := c) (P := P) (ps := ps) (closure_ok hfree) I.ok.glob (I.mod.glob.keeps I.bk) hcode (TB.code.keeps I.bk) hP' ht hc TB.gP bP fun c' ctv doc h' tk hx hge hlt hrec htb => ?_
    obtain ⟨c2, oc, vs, t, e2, hoc, hd, hv⟩ := hrec
    cases e2
    have nC : H c' = none := I.hok.fresh hge
    have I1 := inv_table (t' := tk) (more := #[rawInt pos.line, rawInt pos.col, .ref c']) (h' := h') I hP (fun b o hb e => hx b o hb e) htb hge ⟨oc, vs, t, hoc, hd, hv⟩
    have hE : ∀ b o, b ≠ P → H b = some o → (upd (upd H P (.tbl (ps ++ #[rawInt pos.line, rawInt pos.col, .ref c']))) c' (CodeO c' (X.env.qual ++ name))) b = some o := fun b o n e => by
      rw [upd_ne (ne_of_none e nC), upd_ne n]
      exact e
    have eL : (ps ++ #[rawInt pos.line, rawInt pos.col, .ref c']).toList = ps.toList ++ [rawInt pos.line, rawInt pos.col, .ref c'] := by simp
    have T1 : TabN (upd (upd H P (.tbl (ps ++ #[rawInt pos.line, rawInt pos.col, .ref c']))) c' (CodeO c' (X.env.qual ++ name))) P (fun _ _ => q) := by
      refine ⟨_, by rw [upd_ne (ne_of_none hP nC), upd_same], by rw [eL]; exact PySem.TriplesOk_snoc _ _ _ _ ht, fun p' cv hcv => ?_⟩
      rw [eL] at hcv
      rcases among_app2 _ ht hcv with z | ⟨z, z1, z2⟩
      · obtain ⟨c0, e1, e2⟩ := ha p' cv z
        refine ⟨c0, e1, hE _ _ (fun z => ?_) e2⟩
        rw [z, hP] at e2
        exact codeO_ne _ (Option.some.inj e2).symm
      · refine ⟨c', z, ?_⟩
        rw [hn]
        exact upd_same
    have nF := I1.hok.fresh (Nat.le_refl _)
    have I2 := inv_fn (F := ⟨name, X.env.qual ++ name, params, body, scope, cloFrom X.env.cells scope.names [], c'⟩) (t' := tk) (doc := doc) (pm := (X.mg "__name__").getD .none) (ctv := ctv) I1 rfl
    refine h h'.objs.size c' _ _ I2 (fun b o n e => ?_) (T1.ext fun b o e => ?_) (I.hok.fresh (Nat.le_trans hge (Nat.le_of_lt hlt))) upd_same ?_
    · have e1 := hE b o n e
      exact (upd_ne (ne_of_none e1 nF)).trans e1
    · exact (upd_ne (ne_of_none e nF)).trans e
    · exact (upd_ne (Nat.ne_of_lt hlt)).trans upd_same
  | some cv =>
    obtain ⟨c', e, hco⟩ := ha pos cv hc
    subst e
    rw [hn] at hco
    refine PySem.W.makeFunction_hit (mg := X.mg) (c := c) (P := P) (ps := ps) (closure_ok hfree) I.ok.glob (I.mod.glob.keeps I.bk) hcode (TB.code.keeps I.bk) hP' ht hc bP fun ctv doc h' tk hx hsz => ?_
    have I1 : Inv X pins σ H { s with heap := h', toks := tk } := I.kept hx
    have nF : H h'.objs.size = none := I1.hok.fresh (Nat.le_refl _)
    have I2 := inv_fn (F := ⟨name, X.env.qual ++ name, params, body, scope, cloFrom X.env.cells scope.names [], c'⟩) (t' := tk) (doc := doc) (pm := (X.mg "__name__").getD .none) (ctv := ctv) I1 rfl
    refine h h'.objs.size c' _ _ I2 (fun b o n e => ?_) (hT.ext fun b o e => ?_) nF upd_same ?_
    · exact (upd_ne (ne_of_none e nF)).trans e
    · exact (upd_ne (ne_of_none e nF)).trans e
    · exact (upd_ne (ne_of_none hco nF)).trans hco
end
def tNdefP (P : Addr) (q : Str) (i : Nat) (mk : Addr → NF) : TS := fun D σ H => TabN H P (fun _ _ => q) ∧ ∀ (f c' : Addr) (H1 : Hp), (∀ b o, b ≠ P → H b = some o → H1 b = some o) → TabN H1 P (fun _ _ => q) → H f = none → H1 f = some (FnO f (mk c')) → H1 c' = some (CodeO c' (mk c').qual) → D.nx (σ.set i (some (.ref f))) H1
theorem ps_ndefP {X : Cx} {q : Str} {c P : Addr} {name : Str} {params : Arguments} {body : List Stmt} {scope : Scope} {pos : Pos} {i : Nat} (TB : TabB X.base X.mg c P) (hcode : X.env.code = .ref c) (hn : q = X.env.qual ++ name)
    (hfree : ∀ y ∈ scope.names, y.2 = .free → X.env.scope.names.lookup y.1 = some .cell ∨ X.env.scope.names.lookup y.1 = some .free) (hd0 : params.defaults = []) (hk0 : params.kw_defaults = []) (ha : annTrees params none X.env = [])
    (hN : X.N.Nodup) (hi : X.N[i]? = some name) (hx : Loc X.env.scope name) (hf : X.fn name = true ∨ X.env.scope.names.lookup name = some .local) :
    PS X (.FunctionDef name params body [] none [] scope none name pos) (tNdefP P q i fun c' => ⟨name, X.env.qual ++ name, params, body, scope, cloFrom X.env.cells scope.names [], c'⟩) := by
  refine ⟨fun pins s σ H D I h => ?_⟩
  obtain ⟨hT, h⟩ := h
  have hq : qualnameIn X.env name name = X.env.qual ++ name := by
    have hk : X.env.kindOf name = some .local ∨ X.env.kindOf name = some .cell := hx
    unfold qualnameIn
    rcases hk with k | k <;> rw [k] <;> first | rfl | exact if_neg (by decide)
  refine PySem.W.nestDef_K hd0 hk0 ha ?_
  rw [hq]
  have hfr : ∀ y ∈ scope.names, y.2 = .free → ∃ c, X.env.cells.lookup y.1 = some c := fun y hy e => (hfree y hy e).elim (fun z => I.ok.has _ (.inl z)) fun z => I.ok.has _ (.inr z)
  refine ndef_makeP I TB hcode hn hT hfr fun f c' H1 s' I1 eN T1 f0 f1 c1 => ?_
  exact store_ok I1 hN hi hx (v := .ref f) rfl (fun s'' J => ⟨_, H1, J, h f c' H1 eN T1 f0 f1 c1⟩) hf
theorem ps_ndefPS {X : Cx} {st : Stmt} {q : Str} {c P : Addr} {name : Str} {pos : Pos} {i : Nat} (hst : st = .FunctionDef name (C8.fnArgs st) (C8.fnBody st) [] none [] (C8.fnScope st) none name pos) (TB : TabB X.base X.mg c P) (hcode : X.env.code = .ref c) (hn : q = X.env.qual ++ name)
    (hfree : ∀ y ∈ (C8.fnScope st).names, y.2 = .free → X.env.scope.names.lookup y.1 = some .cell ∨ X.env.scope.names.lookup y.1 = some .free) (hd0 : (C8.fnArgs st).defaults = []) (hk0 : (C8.fnArgs st).kw_defaults = []) (ha : annTrees (C8.fnArgs st) none X.env = [])
    (hN : X.N.Nodup) (hi : X.N[i]? = some name) (hx : Loc X.env.scope name) (hf : X.fn name = true ∨ X.env.scope.names.lookup name = some .local) :
    PS X st (tNdefP P q i (NF.of st name (X.env.qual ++ name) (cloFrom X.env.cells (C8.fnScope st).names []))) := by
  have z := ps_ndefP (X := X) (body := C8.fnBody st) (pos := pos) TB hcode hn hfree hd0 hk0 ha hN hi hx hf
  rw [← hst] at z
  exact z
/-- the table is the one of the def x -/
theorem tabK_uniq {M : Wd} {x : Str} {a f c P : Addr} {o : Obj} {fd : FuncData} (h : TabK M x a) (h1 : M.mg x = some (.ref f)) (h2 : M.K.lookup f = some o) (h3 : o.data = .func fd) (h4 : fd.code = .ref c) (h5 : PySem.W.codeHdIn M.K c P = true) : a = P := by
  obtain ⟨f', c', o', fd', k1, k2, k3, k4, k5⟩ := h
  rw [h1] at k1
  cases k1
  rw [h2] at k2
  cases k2
  rw [h3] at k3
  cases k3
  rw [h4] at k4
  cases k4
  unfold PySem.W.codeHdIn at h5 k5
  split at k5
  · rename_i vs _ hk
    rw [hk] at h5
    simp only [Bool.and_eq_true] at k5 h5
    obtain ⟨⟨⟨⟨⟨e1, _⟩, _⟩, _⟩, _⟩, _⟩ := k5
    obtain ⟨⟨⟨⟨⟨e2, _⟩, _⟩, _⟩, _⟩, _⟩ := h5
    cases hv : (vs[11]? : Option Value) with
    | none => rw [hv] at e1; cases e1
    | some v =>
      rw [hv] at e1 e2
      cases v with
      | ref b => exact (beq_iff_eq.mp e1).symm.trans (beq_iff_eq.mp e2)
      | _ => cases e1
  · cases k5
/-- the def statement, then the rest: the table is cell 0 -/
def dNdef (x : Str) (l : Nat) (g : Sig → AH → Out) : Sig → AH → Out := fun δ S => match (S[0]? : Option Cell) with
  | some (Cell.tab y) => if y = x ∧ l < δ.length then g (δ.set l (some (.c S.length))) (S ++ [.fn]) else .bad
  | _ => .bad
theorem dss_ndef {X : Cx} {E : L2.St → XK} {st : Stmt} {rest : List Stmt} {x : Str} {f c P : Addr} {o : Obj} {fd : FuncData} {l : Nat} {F : Addr → NF} {g : Sig → AH → Out} (hs : PS X st (tNdefP P (x ++ ".<locals>.visit") l F)) (hr : DSFs X E l F rest g)
    (h1 : X.mg x = some (.ref f)) (h2 : X.K.lookup f = some o) (h3 : o.data = .func fd) (h4 : fd.code = .ref c) (h5 : PySem.W.codeHdIn X.K c P = true) : DSs X E (st :: rest) (dNdef x l g) :=
  (pss_cons hs hr.1).imp fun D σ H ⟨as, δ, S, sr, er, w⟩ => by
    unfold dNdef at w
    split at w
    · rename_i y e0
      split at w
      · rename_i hy
        obtain ⟨rfl, hl⟩ := hy
        have hlen : 0 < as.cells.length := by rw [sr.len]; exact (List.getElem?_eq_some_iff.mp e0).1
        have ea : as.cells[0]? = some as.cells[0] := List.getElem?_eq_getElem hlen
        obtain ⟨tk, tn⟩ := sr.cell 0 _ _ ea e0
        have eP := tabK_uniq tk h1 h2 h3 h4 h5
        rw [eP] at ea tn
        refine ⟨tn, fun f c' H1 keep T1 f0 f1 c1 => ?_⟩
        have inP : P ∈ as.cells := List.mem_of_getElem? ea
        obtain ⟨ps, hP, _⟩ := id tn
        have x : Ext as H (as.add f) H1 := by
          refine ⟨⟨[f], rfl⟩, rfl, fun b o e q => ⟨keep b o (fun z => q.1 (by rw [z]; exact inP)) e, fun m => ?_, q.2⟩, fun b o hb e => keep b o (fun z => sr.apart P inP (by rw [← z]; exact hb)) e, fun b g e => keep b _ (fun z => by
            rw [z, hP] at e
            cases e) e⟩
          rcases List.mem_append.mp m with m | m
          · exact q.1 m
          · have : b = f := by simpa using m
            subst this
            rw [f0] at e
            cases e
        have nf : f ∉ as.cells := fun m => by
          obtain ⟨o, e⟩ := sr.mem_some m
          rw [f0] at e
          cases e
        have s1 : SR (wd X) (as.add f) H1 (S ++ [.fn]) := by
          refine ⟨by unfold As.add; rw [List.length_append, List.length_append, sr.len]; rfl, List.nodup_append.mpr ⟨sr.nd, by simp, fun a ha b hb e => ?_⟩, fun a ha => ?_, fun a ha => ?_, fun i a cl e1 e2 => ?_⟩
          · have : b = f := by simpa using hb
            subst this
            subst e
            exact nf ha
          · rcases List.mem_append.mp ha with m | m
            · exact sr.apart a m
            · have : a = f := by simpa using m
              subst this
              intro hh
              obtain ⟨o, e⟩ := sr.hidd a hh
              rw [f0] at e
              cases e
          · obtain ⟨u, e⟩ := sr.hidd a ha
            exact ⟨u, x.hkeep a u ha e⟩
          · have e1 : (as.cells ++ [f])[i]? = some a := e1
            by_cases hi : i < as.cells.length
            · rw [List.getElem?_append_left hi] at e1
              rw [List.getElem?_append_left (by rw [← sr.len]; exact hi)] at e2
              by_cases hp : a = P
              · subst hp
                have i0 : i = 0 := by
                  have h6 : (0 : Nat) < as.cells.length := hlen
                  rw [List.getElem?_eq_getElem hi] at e1
                  rw [List.getElem?_eq_getElem h6] at ea
                  exact (List.getElem_inj sr.nd).mp (by rw [Option.some.inj e1, Option.some.inj ea])
                subst i0
                rw [e0] at e2
                cases e2
                exact ⟨by rw [← eP]; exact tk, T1⟩
              · obtain ⟨o, eo⟩ := sr.mem_some (List.mem_of_getElem? e1)
                exact (sr.cell i a cl e1 e2).mono x (by rw [keep a o hp eo, eo])
            · have hl2 : i < (as.cells ++ [f]).length := (List.getElem?_eq_some_iff.mp e1).1
              rw [List.length_append, List.length_singleton] at hl2
              have hi' : i = as.cells.length := by omega
              subst hi'
              rw [List.getElem?_append_right (Nat.le_refl _), Nat.sub_self] at e1
              rw [sr.len, List.getElem?_append_right (Nat.le_refl _), Nat.sub_self] at e2
              have e1' : f = a := by simpa using e1
              have e2' : Cell.fn = cl := by simpa using e2
              subst e1'
              subst e2'
              exact ⟨_, f1⟩
        have gf : (as.add f).cells[S.length]? = some f := by
          show (as.cells ++ [f])[S.length]? = some f
          rw [← sr.len, List.getElem?_append_right (Nat.le_refl _), Nat.sub_self]
          rfl
        exact ⟨as.add f, _, _, s1, (er.mono x.w).set (d := .c S.length) ⟨f, gf, rfl⟩ l, ⟨S.length, f, c', by rw [List.getElem?_set_self hl], gf, f1, c1⟩, WS.later x w⟩
      · exact w.elim
    · exact w.elim
/-! ### a def whose code object is known -/
structure FunC (K : PySem.W.Frag) (x qual : Str) (st : Stmt) (f : Addr) (fd : FuncData) (c : Addr) : Prop where
  ex : ∃ (oc : Value) (od : Option Addr) (kV doc pm : Value) (an : Option Addr) (ct : Value) (osl : Array (Option Value)),
    fd = PySem.W.fnOf x qual (defArgs st) (defBody st) (defScope st) .none kV doc pm an (.ref c) ct ∧ K.lookup f = some ⟨oc, od, .func fd, osl⟩ ∧ PySem.W.codeIn K (.ref c) qual = true
theorem funC_mk {K : PySem.W.Frag} {x qual : Str} {st : Stmt} {f c : Addr} {oc : Value} {od an : Option Addr} {osl : Array (Option Value)} {kV doc pm ct : Value} (l : K.lookup f = some ⟨oc, od, .func (PySem.W.fnOf x qual (defArgs st) (defBody st) (defScope st) .none kV doc pm an (.ref c) ct), osl⟩)
    (cd : PySem.W.codeIn K (.ref c) qual = true) : FunC K x qual st f (PySem.W.fnOf x qual (defArgs st) (defBody st) (defScope st) .none kV doc pm an (.ref c) ct) c := ⟨⟨oc, od, kV, doc, pm, an, ct, osl, rfl, l, cd⟩⟩
theorem FunC.look {K : PySem.W.Frag} {x qual : Str} {st : Stmt} {f : Addr} {fd : FuncData} {c : Addr} (F : FunC K x qual st f fd c) : ∃ o, K.lookup f = some o ∧ o.data = .func fd ∧ fd.code = .ref c := by
  obtain ⟨oc, od, kV, doc, pm, an, ct, osl, rfl, lk, hcd⟩ := F.ex
  exact ⟨_, lk, rfl, rfl⟩
section
variable {P : Program} {w : World} {K : PySem.W.Frag} {mg : Str → Option Value} {base : Heap}
theorem def_okC {x qual : Str} {st : Stmt} {f c : Addr} {fd : FuncData} {N ps : List Str} {k : Nat} {n : Nat} {keep : Bool} {body : Sig → AH → Out} {nN : Nat} (F : FunC K x qual st f fd c) (S : FnScope N ps (defScope st)) (hn : n = ps.length) (hN : nN = N.length)
    (hbody : ∀ (A : Around) (outer : List Env) (s : Shared) (H : Hp) (E : XK), Room k (A.deeper (envOfC qual (defScope st) s.heap.objs.size f (.ref c))) →
      Gd (cxOf (L2.CX P w) P w K mg base N qual (defScope st) f (.ref c) A outer s H E) (fun _ => E) →
      DSs (cxOf (L2.CX P w) P w K mg base N qual (defScope st) f (.ref c) A outer s H E) (fun _ => E) (defBody st) body) : FnOk P w K mg base (L2.CX P w) (k + 1) f fd ps (spD ⟨K, mg⟩ (dDef nN n keep body)) := by
  subst hn hN
  obtain ⟨oc, od, kV, doc, pm, an, ct, osl, rfl, lk, hcd⟩ := F.ex
  refine fn_of lk hcd S (fun vs H Q E h => ?_) fun A outer s H vs Q E hr h => ?_
  · obtain ⟨as, ds, S, sr, r, w⟩ := h
    unfold dDef at w
    split at w
    · rename_i e
      rw [← e]
      exact Paired.length r
    · exact w.elim
  · refine ⟨_, hbody A outer s H E hr ⟨rfl, takes_of rfl rfl rfl rfl, passes_of rfl⟩, ?_⟩
    obtain ⟨as, ds, S, sr, r, w⟩ := h
    unfold dDef at w
    split at w
    · rename_i e
      exact ⟨as, _, S, sr, er_start r e, gc_ok sr w⟩
    · exact w.elim
end
/-! ### the end, with the table of the def y -/
def spLawT (M : Wd) (y : Str) : Sp := fun vs H Q E => ∃ (a : Addr) (ns : List Int) (P : Addr), vs = [.ref a] ∧ SqL M.K H a (ns.map V.int) ∧ ns.length ≤ 63 ∧ TabK M y P ∧ H P = some (.tbl #[]) ∧ ∀ H', Q (.bl true) H'
theorem law_endT {M : Wd} {y : Str} {F : List DV → AH → Res DV} (ht : ∀ (D : PV) (ns : List Int), ns.length ≤ 63 → (D = .fro (ns.map PV.int) ∨ D = .lst (ns.map PV.int)) → ∃ S, F [.p D] [.tab y] = .ok (.p (.bl true)) S)
    {vs : List V} {H : Hp} {Q : VK} {E : XK} (h : spLawT M y vs H Q E) : spD M F vs H Q E := by
  obtain ⟨a, ns, P, rfl, hS, h63, tk, hP, q⟩ := h
  have z : (ns.map V.int).length ≤ sizeLine := by rw [List.length_map]; exact Nat.le_trans h63 (by decide)
  have off : ∀ o, H a = some o → (∀ ps, o ≠ .tbl ps) → (⟨[P], fun _ => False⟩ : As).off a := fun o e n => ⟨fun m => by
    have : a = P := by simpa using m
    subst this
    rw [hP] at e
    exact n _ (Option.some.inj e).symm, fun z => z⟩
  have sr : SR M ⟨[P], fun _ => False⟩ H [.tab y] := ⟨rfl, by simp, (fun _ _ z => z), (fun _ z => z.elim), fun i b c e1 e2 => by
    cases i with
    | zero =>
      have e1 : P = b := by simpa using e1
      have e2 : Cell.tab y = c := by simpa using e2
      subst e1
      subst e2
      exact ⟨tk, TabN.nil hP⟩
    | succ i => simp at e1⟩
  obtain ⟨D, hD, hr⟩ : ∃ D : PV, (D = .fro (ns.map PV.int) ∨ D = .lst (ns.map PV.int)) ∧ PR M ⟨[P], fun _ => False⟩ H (.ref a) D := by
    rcases hS with (hS | ⟨o, hS⟩) | hS
    · exact ⟨_, .inr rfl, .lst ⟨z, hS, off _ hS (fun ps e => by cases e)⟩ (PRs.of_ints ns)⟩
    · exact ⟨_, .inl rfl, .fro ⟨z, .inl ⟨⟨o, hS⟩, off _ hS (fun ps e => by cases e)⟩⟩ (PRs.of_ints ns)⟩
    · exact ⟨_, .inl rfl, .fro ⟨z, .inr hS⟩ (PRs.of_ints ns)⟩
  obtain ⟨S, e⟩ := ht D ns h63 hD
  refine ⟨⟨[P], fun _ => False⟩, [.p D], [.tab y], sr, .cons hr .nil, ?_⟩
  rw [e]
  intro as' H' b x s rr
  cases rr
  exact q H'
theorem walkT {l : PySem.W.OpenLaw} {k : Nat} {q : Program} {loose : List Str} {XP : (Str → Option Value) → Heap → Prop} {YP : World → Heap → Prop} {d : DefRec} {K : Params → PySem.W.Frag} (y : Str) (hn : l.most = some 63) (hdf : d.params.defaults = []) (hr : Room k callerA)
    (hrec : ((recsOf q).any fun e => e.name == y) = true) (hY : ∀ (w : World) (h : Heap), YP w h → (K w.params).In h)
    (F : ∀ (w : World) (mg : Str → Option Value) (fa : Addr) (h : Heap), (K w.params).In h → h.Ns mainGlobals mg → mg d.name = some (.ref fa) →
      ∃ (fd : FuncData) (f c P : Addr) (o : Obj) (fv : FuncData), (∀ (s : Shared) (u : Value), BindsTo s fd ⟨[u], []⟩ [("script", u)]) ∧ mg y = some (.ref f) ∧ (K w.params).lookup f = some o ∧ o.data = .func fv ∧ fv.code = .ref c ∧ PySem.W.codeHdIn (K w.params) c P = true ∧ (K w.params).lookup P = none ∧
        ∀ base : Heap, TabB base mg c P → FnOk l.prog w (K w.params) mg base (L2.CX l.prog w) k fa fd ["script"] (spLawT ⟨K w.params, mg⟩ y)) :
    PySem.W.WalkO q loose XP YP l.row.toRowW d [] (fun f vs => PySem.call f vs) := by
  refine Att.attach_callB hn hdf fun w s₀ s₁ mg mb fa o0 pm cd doc a vs ns G Y ho hd hcd hmg hobj hints hlen hbits hg => ?_
  have KX := hY w _ Y
  obtain ⟨fd, f, c, P, o, fv, hb, m1, m2, m3, m4, m5, m6, hF⟩ := F w mg fa _ KX G.T.g hmg
  have hd5 := PySem.W.codeHd_of_K KX m5
  have own : s₁.heap.get? P = some { cls := .none, data := .fields #[] } := by
    obtain ⟨dL, hm, hn1⟩ := List.any_eq_true.mp hrec
    have hn2 : dL.name = y := beq_iff_eq.mp hn1
    obtain ⟨a', o', fd', c', P', h1, h2, h3, h4, h5, h6⟩ := G.T.tab dL hm
    rw [hn2, m1] at h1
    cases h1
    have g1 := KX _ _ m2
    rw [g1] at h2
    cases h2
    rw [m3] at h3
    cases h3
    rw [m4] at h4
    cases h4
    obtain ⟨⟨oc, vc, e1, _, e3, e4⟩, hP⟩ := h6
    unfold PySem.W.codeHdIn at m5
    split at m5
    · rename_i vs1 _ hk
      have g2 := KX _ _ hk
      rw [g2] at e1
      cases e1
      cases e3
      simp only [Bool.and_eq_true] at m5
      obtain ⟨⟨⟨⟨⟨z1, _⟩, _⟩, _⟩, _⟩, _⟩ := m5
      rw [e4] at z1
      rw [← beq_iff_eq.mp z1]
      exact hP
    · cases m5
  refine law_callTs (cs := [(c, P)]) (sp := spLawT ⟨K w.params, mg⟩ y) KX G.T.g G.T.b G.T.builtins G.T.nolimit hg ?_ ?_ ?_ G.T.bmain hobj hints (Nat.le_trans hlen (by decide)) hr (fun base _ _ hc => hF base (hc (c, P) List.mem_cons_self)) hb (fun H hH hS => ⟨a, ns, P, rfl, hS, hlen, ⟨f, c, o, fv, m1, m2, m3, m4, m5⟩, hH (c, P) List.mem_cons_self, fun _ => rfl⟩) fun H e s' h => ?_
  · intro p hp
    cases List.mem_singleton.mp hp
    exact own
  · intro p hp
    cases List.mem_singleton.mp hp
    exact m6
  · intro p hp
    cases List.mem_singleton.mp hp
    exact hd5
  · obtain ⟨_, _, _, _, _, _, _, _, _, _, _, _, z⟩ := h
    exact z
theorem kp_aug {i j : Nat} {o : Op2} {fe : Sig → AH → Res DV} (h : j ≠ i) : Kp i (dAug j o fe) := fun δ S => by
  unfold dAug
  split
  · refine kp_out fun b S1 => kp_out fun d S2 => ?_
    show (δ.set j (some d))[i]? = δ[i]?
    rw [List.getElem?_set_ne h]
  · trivial
end DL
namespace DL
noncomputable section
open PySem PySem.Spec PyProof.Rows L2

/-! ### sorted(set(xs)), xs a list of tuples of numbers, all as long -/
/-- sorted by a key, each key once -/
def insC (k : List Int → Int) (a : List Int) : List (List Int) → List (List Int)
  | [] => [a]
  | b :: r => if k a < k b then a :: b :: r else if k a = k b then b :: r else b :: insC k a r
def srtC (k : List Int → Int) : List (List Int) → List (List Int)
  | [] => []
  | a :: r => insC k a (srtC k r)
theorem insC_sub (k : List Int → Int) (a x : List Int) : ∀ l, x ∈ insC k a l → x = a ∨ x ∈ l
  | [], h => by simp [insC] at h; exact .inl h
  | b :: r, h => by
    unfold insC at h
    split at h
    · rcases List.mem_cons.mp h with h | h
      · exact .inl h
      · exact .inr h
    · split at h
      · exact .inr h
      · rcases List.mem_cons.mp h with h | h
        · exact .inr (by rw [h]; exact List.mem_cons_self)
        · rcases insC_sub k a x r h with h | h
          · exact .inl h
          · exact .inr (List.mem_cons_of_mem _ h)
theorem insC_old (k : List Int → Int) (a x : List Int) : ∀ l, x ∈ l → x ∈ insC k a l
  | b :: r, h => by
    unfold insC
    split
    · exact List.mem_cons_of_mem _ h
    · split
      · exact h
      · rcases List.mem_cons.mp h with h | h
        · rw [h]; exact List.mem_cons_self
        · exact List.mem_cons_of_mem _ (insC_old k a x r h)
theorem insC_new (k : List Int → Int) (a : List Int) : ∀ l, (∀ b ∈ l, k a = k b → a = b) → a ∈ insC k a l
  | [], _ => by simp [insC]
  | b :: r, h => by
    unfold insC
    split
    · exact List.mem_cons_self
    · split
      · rename_i q
        rw [h b List.mem_cons_self q]
        exact List.mem_cons_self
      · exact List.mem_cons_of_mem _ (insC_new k a r fun c hc => h c (List.mem_cons_of_mem _ hc))
theorem insC_asc (k : List Int → Int) (a : List Int) : ∀ {l : List (List Int)}, l.Pairwise (fun x y => k x < k y) → (insC k a l).Pairwise (fun x y => k x < k y)
  | [], _ => by simp [insC]
  | b :: r, h => by
    obtain ⟨h1, h2⟩ := List.pairwise_cons.mp h
    unfold insC
    split
    · rename_i q
      refine List.pairwise_cons.mpr ⟨fun y hy => ?_, h⟩
      rcases List.mem_cons.mp hy with rfl | hy
      · exact q
      · have := h1 y hy; omega
    · split
      · exact h
      · refine List.pairwise_cons.mpr ⟨fun y hy => ?_, insC_asc k a h2⟩
        rcases insC_sub k a y r hy with rfl | hy
        · omega
        · exact h1 y hy
theorem srtC_sub (k : List Int → Int) {x : List Int} : ∀ {l}, x ∈ srtC k l → x ∈ l
  | a :: r, h => by
    rcases insC_sub k a x _ h with rfl | h
    · exact List.mem_cons_self
    · exact List.mem_cons_of_mem _ (srtC_sub k h)
theorem srtC_all (k : List Int → Int) {x : List Int} : ∀ {l}, (∀ a ∈ l, ∀ b ∈ l, k a = k b → a = b) → x ∈ l → x ∈ srtC k l
  | a :: r, inj, h => by
    rcases List.mem_cons.mp h with rfl | h
    · exact insC_new k x _ fun b hb e => inj x List.mem_cons_self b (List.mem_cons_of_mem _ (srtC_sub k hb)) e
    · exact insC_old k a x _ (srtC_all k (fun a ha b hb => inj a (List.mem_cons_of_mem _ ha) b (List.mem_cons_of_mem _ hb)) h)
theorem srtC_asc (k : List Int → Int) : ∀ l, (srtC k l).Pairwise (fun x y => k x < k y)
  | [] => .nil
  | a :: r => insC_asc k a (srtC_asc k r)
theorem key_same (k : List Int → Int) : ∀ {l m : List (List Int)}, l.Pairwise (fun x y => k x < k y) → m.Pairwise (fun x y => k x < k y) → (∀ x, x ∈ l ↔ x ∈ m) → l = m
  | [], [], _, _, _ => rfl
  | [], b :: m, _, _, h => by have := (h b).mpr List.mem_cons_self; cases this
  | a :: l, [], _, _, h => by have := (h a).mp List.mem_cons_self; cases this
  | a :: l, b :: m, h1, h2, h => by
    obtain ⟨p1, p2⟩ := List.pairwise_cons.mp h1
    obtain ⟨q1, q2⟩ := List.pairwise_cons.mp h2
    have ab : a = b := by
      rcases List.mem_cons.mp ((h a).mp List.mem_cons_self) with e | e
      · exact e
      · rcases List.mem_cons.mp ((h b).mpr List.mem_cons_self) with e2 | e2
        · exact e2.symm
        · have := p1 b e2
          have := q1 a e
          omega
    subst ab
    rw [key_same k p2 q2 fun x => ?_]
    constructor
    · intro hx
      rcases List.mem_cons.mp ((h x).mp (List.mem_cons_of_mem _ hx)) with e | e
      · have := p1 x hx; rw [e] at this; omega
      · exact e
    · intro hx
      rcases List.mem_cons.mp ((h x).mpr (List.mem_cons_of_mem _ hx)) with e | e
      · have := q1 x hx; rw [e] at this; omega
      · exact e
theorem code_one {B : Int} : ∀ {ns ms : List Int}, TS.Bd B ns → TS.Bd B ms → ns.length = ms.length → TS.code B ns = TS.code B ms → ns = ms
  | [], [], _, _, _, _ => rfl
  | [], _ :: _, _, _, l, _ => by simp at l
  | _ :: _, [], _, _, l, _ => by simp at l
  | d :: r, e :: q, h1, h2, l, h => by
    have l' : r.length = q.length := by simpa using l
    have de : d = e := by
      by_cases c : d < e
      · have := TS.code_lt l' h1.tail h2.tail c; omega
      · by_cases c2 : e < d
        · have := TS.code_lt l'.symm h2.tail h1.tail c2; omega
        · omega
    subst de
    have t : TS.code B r = TS.code B q := by
      have h : d * B ^ r.length + TS.code B r = d * B ^ q.length + TS.code B q := h
      rw [l'] at h
      omega
    rw [code_one h1.tail h2.tail l' t]
/-- tuples of numbers -/
def tupsOf : List PV → Option (List (List Int))
  | [] => some []
  | .tup xs :: r => match intsOf xs, tupsOf r with
    | some ns, some t => some (ns :: t)
    | _, _ => none
  | _ :: _ => none
theorem tupsOf_ok : ∀ {ps : List PV} {nss : List (List Int)}, tupsOf ps = some nss → ps = nss.map fun ns => PV.tup (ns.map PV.int)
  | [], nss, h => by
    obtain rfl : [] = nss := by simpa [tupsOf] using h
    rfl
  | p :: r, nss, h => by
    cases p with
    | tup xs =>
      unfold tupsOf at h
      cases e1 : intsOf xs with
      | none => rw [e1] at h; simp at h
      | some ns =>
        cases e2 : tupsOf r with
        | none => rw [e1, e2] at h; simp at h
        | some t =>
          rw [e1, e2] at h
          obtain rfl : ns :: t = nss := by simpa using h
          rw [List.map_cons, ← tupsOf_ok e2, intsOf_ok e1]
    | _ => simp [tupsOf] at h
theorem tupsOf_map : ∀ nss : List (List Int), tupsOf (nss.map fun ns => PV.tup (ns.map PV.int)) = some nss
  | [] => rfl
  | n :: nss => by rw [List.map_cons, tupsOf, intsOf_map, tupsOf_map nss]
def codeK : List Int → Int := TS.code 1000
open Classical in
/-- words as long, with letters below 1000 -/
def SameW (nss : List (List Int)) : Prop := nss.length < 64 ∧ ∃ d, 1 ≤ d ∧ ∀ ns ∈ nss, ns.length = d ∧ TS.Bd 1000 ns
open Classical in
def ssetW : OpF := fun ds S => match ds with
  | [d] => match litems d S with
    | some xs => match tupsOf xs with
      | some nss => if SameW nss then some ((srtC codeK nss).map fun ns => PV.tup (ns.map PV.int)) else none
      | none => none
    | none => none
  | _ => none
section
variable {M : Wd} {as as' : As} {H H' : Hp}
/-- the tuples of numbers among the values -/
theorem PRs.tups : ∀ {vs : List V} {nss : List (List Int)}, PRs M as H vs (nss.map fun ns => PV.tup (ns.map PV.int)) → ∃ ks : List (Addr × List Int), vs = ks.map (fun p => V.ref p.1) ∧ ks.map (·.2) = nss ∧ ∀ p ∈ ks, PR M as H (.ref p.1) (.tup (p.2.map PV.int))
  | [], [], _ => ⟨[], rfl, rfl, fun p h => by cases h⟩
  | v :: vs, n :: nss, .cons r t => by
    obtain ⟨ks, h1, h2, h3⟩ := PRs.tups t
    cases r with
    | tup h q => exact ⟨(_, n) :: ks, by rw [h1]; rfl, by rw [← h2]; rfl, fun p hp => by
        rcases List.mem_cons.mp hp with rfl | hp
        · exact .tup h q
        · exact h3 p hp⟩
theorem PR.sqi {a : Addr} {ns : List Int} (h : PR M as H (.ref a) (.tup (ns.map PV.int))) : SqT M.K H a (ns.map V.int) := by
  cases h with
  | tup h t =>
    have := h.sq
    rwa [t.ints] at this
theorem prs_of : ∀ {ks : List (Addr × List Int)}, (∀ p ∈ ks, PR M as H (.ref p.1) (.tup (p.2.map PV.int))) → PRs M as H (ks.map fun p => V.ref p.1) ((ks.map (·.2)).map fun ns => PV.tup (ns.map PV.int))
  | [], _ => .nil
  | p :: ks, h => .cons (h p List.mem_cons_self) (prs_of fun q hq => h q (List.mem_cons_of_mem _ hq))
end
section
variable {X : Cx} {E : L2.St → XK} {e : Expr} {p p2 q pos : Pos} {fe : Sig → AH → Res DV}
theorem fe_ssetW (g : Gd X E) (hu : X.A.units + 64 < cLine) (hg : Gl X "sorted") (hm : X.mg "sorted" = none) (hg2 : Gl X "set") (hm2 : X.mg "set" = none) (he : DE X E e fe) (hs : starEach [e] X.env = [(false, eval e X.env)] := by rfl) (hs2 : starEach [Expr.Call (.Name "set" p2) [e] [] q] X.env = [(false, eval (Expr.Call (.Name "set" p2) [e] [] q) X.env)] := by rfl) :
    FE X E (.Call (.Name "sorted" p) [.Call (.Name "set" p2) [e] [] q] [] pos) (dAppF ssetW (dCons fe dNil)) :=
  (pe_callB (cr_sortedT g.calm) hg hm (by kernel_rfl) (pa_cons (pe_callTy (cr_setOfT g.calm hu) hg2 hm2 (by kernel_rfl) (pa_cons he pa_nil hs) (by decide) (by decide) hs rfl) pa_nil hs2) (by decide) (by decide) hs2 rfl).imp fun σ H Q ⟨as, δ, S, sr, er, w⟩ => by
  have w : WF (wd X) (E σ) as H ((fe δ S).bind fun d S1 => match ssetW [d] S1 with
    | some ps => .ok ps S1
    | none => .bad) Q := by
    have e1 : dAppF ssetW (dCons fe dNil) δ S = (fe δ S).bind fun d S1 => match ssetW [d] S1 with
      | some ps => .ok ps S1
      | none => .bad := by
      show (Res.bind (Res.bind (fe δ S) _) _) = _
      cases fe δ S <;> rfl
    rw [← e1]
    exact w
  refine ⟨as, δ, S, sr, er, (WF.bind (R := DVR (wd X)) w).mono fun _ _ _ _ v _ _ _ _ ⟨as1, S1, d1, _, x1, s1, r1, w1⟩ => ?_⟩
  cases e1 : litems d1 S1 with
  | none => simp only [ssetW, e1] at w1; exact w1.elim
  | some xs =>
    cases e2 : tupsOf xs with
    | none => simp only [ssetW, e1, e2] at w1; exact w1.elim
    | some nss =>
      by_cases hw : SameW nss
      case neg => simp only [ssetW, e1, e2, if_neg hw] at w1; exact w1.elim
      simp only [ssetW, e1, e2, if_pos hw] at w1
      obtain ⟨h64, d, hd, hb⟩ := hw
      obtain ⟨a, vs, rfl, hz, hq, t⟩ := litems_sq s1 r1 e1
      rw [tupsOf_ok e2] at t
      obtain ⟨ks, k1, k2, k3⟩ := t.tups
      subst k1
      refine ⟨a, ks, rfl, hq, fun p hp => (k3 p hp).sqi, by rw [← k2, List.length_map] at h64; exact h64, fun b L nb hL hA => ?_⟩
      have x2 := ext_new (o := SetTO X.prog X.w b L) s1 nb
      have k3' : ∀ p ∈ ks, PR (wd X) as1 (upd _ b (SetTO X.prog X.w b L)) (.ref p.1) (.tup (p.2.map PV.int)) := fun p hp => (k3 p hp).mono x2.w
      have hbk : ∀ p ∈ ks, p.2.length = d ∧ TS.Bd 1000 p.2 := fun p hp => hb p.2 (by rw [← k2]; exact List.mem_map.mpr ⟨p, hp, rfl⟩)
      refine ⟨b, L, d, 1000, rfl, upd_same, fun p hp => (k3' p (hL p hp)).sqi, hd, fun p hp => hbk p (hL p hp), fun L' c pm nd len pw nc => ?_⟩
      have hL' : ∀ p ∈ L', p ∈ ks := fun p hp => hL p (pm.mem_iff.mp hp)
      have en : L'.map (·.2) = srtC codeK nss := by
        refine key_same codeK ?_ (srtC_asc codeK nss) fun x => ?_
        · have pw' : (L'.map (·.2)).Pairwise fun x y => codeK x ≤ codeK y := List.pairwise_map.mpr pw
          refine (pw'.and nd).imp_of_mem fun {x y} hx hy h => ?_
          obtain ⟨p, hp, rfl⟩ := List.mem_map.mp hx
          obtain ⟨p', hp', rfl⟩ := List.mem_map.mp hy
          obtain ⟨b1, b2⟩ := hbk p (hL' p hp)
          obtain ⟨b3, b4⟩ := hbk p' (hL' p' hp')
          by_cases ce : codeK p.2 = codeK p'.2
          · exact absurd (code_one b2 b4 (b1.trans b3.symm) ce) h.2
          · have := h.1; omega
        · constructor
          · intro hx
            obtain ⟨p, hp, rfl⟩ := List.mem_map.mp hx
            refine srtC_all codeK (fun a ha b hb' ce => code_one (hb a ha).2 (hb b hb').2 ((hb a ha).1.trans (hb b hb').1.symm) ce) ?_
            rw [← k2]; exact List.mem_map.mpr ⟨p, hL' p hp, rfl⟩
          · intro hx
            have hx := srtC_sub codeK hx
            rw [← k2] at hx
            obtain ⟨p, hp, rfl⟩ := List.mem_map.mp hx
            obtain ⟨p', hp', e'⟩ := List.mem_map.mp (hA p hp)
            exact List.mem_map.mpr ⟨p', pm.mem_iff.mpr hp', e'⟩
      have pr := prs_of (ks := L') fun p hp => k3' p (hL' p hp)
      rw [en] at pr
      exact (WF.later x2 w1).here (s1.new nb) (by rw [List.length_map, sizeLine_eq]; omega) pr nc
end
end
end DL
namespace DL
noncomputable section
open PySem PySem.Spec PyProof.Rows L2

/-! ### a, o[i] = a pair -/
def dAsgS (j : Nat) (fe fo fi : Sig → AH → Res DV) : Sig → AH → Out := fun δ S => (fe δ S).out δ fun v S => match v with
  | .p (.tup [a, b]) => (fo (δ.set j (some (.p a))) S).out (δ.set j (some (.p a))) fun o S => (fi (δ.set j (some (.p a))) S).out (δ.set j (some (.p a))) fun i S => match setIx o i (.p b) S with
    | some S' => .nx (δ.set j (some (.p a))) S'
    | none => .bad
  | _ => .bad
section
variable {X : Cx} {E : L2.St → XK} {o i e : Expr} {pos tpos npos ppos : Pos} {fe fo fi : Sig → AH → Res DV} {j k : Nat} {x : Str}
theorem ds_asgS (hc : X.calm = true) (hN : X.N.Nodup) (hj : X.N[j]? = some x) (hx : Loc X.env.scope x) (he : DE X E e fe) (ho : DE X E o fo) (hi : DE X E i fi)
    (hf : X.fn x = true ∨ X.env.scope.names.lookup x = some .local := by first | exact .inl rfl | exact .inr rfl | assumption)
    (hs : swapsWithSole [.Tuple [.Name x npos, .Subscript o i tpos] k ppos] e pos.line X.env = pure false := by rfl) (hw : swappedStores [.Tuple [.Name x npos, .Subscript o i tpos] k ppos] e X.env = pure none := by rfl)
    (h1 : (assignEach [.Tuple [.Name x npos, .Subscript o i tpos] k ppos] X.env).map (·.2) = [assign (.Tuple [.Name x npos, .Subscript o i tpos] k ppos) X.env] := by rfl)
    (ha : ∀ v, assign (.Subscript o i tpos) X.env v = (do
      let ov ← holding [v] (eval o X.env)
      let iv ← holding [v, ov] (eval i X.env)
      standAt tpos
      holding [v, ov, iv] (setItem ov iv v)
      release [v, ov, iv] []) := by intro _; rfl)
    (c1 : (assignEach [.Name x npos, .Subscript o i tpos] X.env).map (·.2) = assign (.Name x npos) X.env :: (assignEach [.Subscript o i tpos] X.env).map (·.2) := by rfl)
    (c2 : (assignEach [.Subscript o i tpos] X.env).map (·.2) = assign (.Subscript o i tpos) X.env :: (assignEach [] X.env).map (·.2) := by rfl)
    (hn : (assignEach [.Name x npos, .Subscript o i tpos] X.env).length = 2 := by rfl) (hst : (assignEach [.Name x npos, .Subscript o i tpos] X.env).findIdx? (·.1) = none := by rfl) :
    DS X E (.Assign [.Tuple [.Name x npos, .Subscript o i tpos] k ppos] e pos) (dAsgS j fe fo fi) :=
  (ps_asg he (pg_tup hc (pgs_cons (pg_name hN hj hx hf) (pgs_cons (pg_sub ho hi ow_setIx ha) pgs_nil c2) c1) hn hst) hs hw h1).imp fun D σ H ⟨as, δ, S, sr, er, w⟩ =>
  ⟨as, δ, S, sr, er, (w.bind er).mono fun _ _ _ _ _ _ _ _ _ ⟨as1, S1, d1, _, x1, s1, r1, w1⟩ => by
    split at w1
    · cases r1 with
      | tup h t =>
        obtain ⟨v, v2, rfl, r, r'⟩ := DVRs.two t.dvrs
        have er1 := (er.mono x1.w).set r j
        refine ⟨_, _, rfl, h.sq, rfl, _, _, rfl, _, _, rfl, as1, _, S1, s1, er1, (w1.bind er1).mono fun _ _ _ _ _ _ _ _ _ ⟨as2, S2, d2, _, x2, s2, r2, w2⟩ =>
          ⟨as2, _, S2, s2, er1.mono x2.w, (w2.bind (er1.mono x2.w)).mono fun _ _ _ _ _ _ _ _ _ ⟨as3, S3, d3, _, x3, s3, r3, w3⟩ => ?_⟩⟩
        split at w3
        · rename_i S' eq
          exact ⟨as3, S3, d2, d3, _, s3, r2.mono x3.w, r3, (r'.mono x2.w).mono x3.w, S', eq, fun as' H' x s => ⟨rfl, w3 as' H' _ x s (((er1.mono x2.w).mono x3.w).mono x.w)⟩⟩
        · exact w3.elim
    · exact w1.elim⟩
end
end
end DL
namespace DL
noncomputable section
open PySem PySem.Spec PyProof.Rows L2

/-! ### [e for a in xs if .. for b in ys if ..] -/
theorem Exw.hide2 {as as' : As} {H H' : Hp} {p : Addr} {o o' : HO} (x : Exw as H as' H') (n : H p = none) : Exw (as.hide p) (upd H p o) (as'.hide p) (upd H' p o') :=
  ⟨x.more, fun a u e q => by
    have ne : a ≠ p := fun z => q.2 (.inr z)
    rw [upd_ne ne] at e ⊢
    obtain ⟨h1, h2⟩ := x.keep a u e ⟨q.1, fun z => q.2 (.inl z)⟩
    exact ⟨h1, h2.1, fun z => by
      rcases z with z | z
      · exact h2.2 z
      · exact ne z⟩⟩
open Classical in
def lc2Go (ck : AH → Prop) (q : Pat) (fc : Sig → AH → Res Bool) (fi1 : Sig → AH → Res Its') (q1 : Pat) (fc1 : Sig → AH → Res Bool) (fe : Sig → AH → Res DV) (vs1 : List Nat) (δ : Sig) : List DV → AH → Res (List PV)
  | [], S => if ck S then .ok [] S else .bad
  | x :: xs, S => if ck S then match q.set x δ with
    | none => .bad
    | some δ2 => (fc δ2 S).nox.bind fun b S1 => if b = true then (fi1 δ2 S1).nox.bind fun y S2 => if y.1.length ≤ 1000 then
        (lcGo y.2 q1 fc1 fe (wipeD δ2 vs1) y.1 S2).bind fun us S3 => (lc2Go ck q fc fi1 q1 fc1 fe vs1 δ xs S3).bind fun ys S4 => .ok (us ++ ys) S4
        else .bad
      else lc2Go ck q fc fi1 q1 fc1 fe vs1 δ xs S1
    else .bad
def dLc2 (fi : Sig → AH → Res Its') (q : Pat) (fc : Sig → AH → Res Bool) (fi1 : Sig → AH → Res Its') (q1 : Pat) (fc1 : Sig → AH → Res Bool) (fe : Sig → AH → Res DV) (vs vs1 : List Nat) : Sig → AH → Res (List PV) :=
  fun δ S => (fi δ S).bind fun x S1 => if x.1.length ≤ 1000 then lc2Go x.2 q fc fi1 q1 fc1 fe vs1 (wipeD δ vs) x.1 S1 else .bad
section
variable {X : Cx} {E : L2.St → XK} {elt tg iter tg1 iter1 : Expr} {ifs ifs1 : List Expr} {scope : Scope} {own : List (Str × Nat)} {pos : Pos} {fi fi1 : Sig → AH → Res Its'} {q q1 : Pat} {fc fc1 : Sig → AH → Res Bool} {fe : Sig → AH → Res DV}
theorem lc2_t {σ : L2.St} {H : Hp} {Q : VK} {as : As} {δ : Sig} {S : AH} {vs vs1 : List Nat} (hq : ∀ i ∈ q.slots, i ∈ vs) (hq1 : ∀ i ∈ q1.slots, i ∈ vs1) (sr : SR (wd X) as H S) (er : ER (wd X) as H σ δ) (w : WF (wd X) (E σ) as H (dLc2 fi q fc fi1 q1 fc1 fe vs vs1 δ S) Q) :
    tLc2 (tI (wd X) E fi) (tPat X.K q) (tDT (wd X) EN fc) (tI (wd X) EN fi1) (tPat X.K q1) (tDT (wd X) EN fc1) (tD (wd X) EN fe) vs vs1 σ H Q := by
  refine ⟨as, δ, S, sr, er, (WF.bind w).mono fun _ _ _ H1 J _ _ _ _ ⟨as1, S1, x, _, e1, s1, y1, w1⟩ => ?_⟩
  obtain ⟨xs, ck⟩ := x
  intro D nD
  have er1 := er.mono e1.w
  have nh : ¬ as1.hid D := (s1.fresh nD).2
  dsimp only at w1 y1
  have hz : xs.length ≤ 1000 := by
    refine Classical.byContradiction fun n => ?_
    rw [if_neg n] at w1
    exact w1
  rw [if_pos hz] at w1
  have hs : sizeLine = 16777216 := by decide
  refine ⟨fun i m H => m = xs.length - i ∧ i ≤ xs.length ∧ ∃ (asm : As) (Sm : AH) (accV : List V) (accP : List PV), H D = some (.lst accV) ∧ accV.length ≤ 1000 * i ∧ Ext as1 H1 asm (del H D) ∧ SR (wd X) asm (del H D) Sm ∧ PRs (wd X) asm (del H D) accV accP ∧
      WF (wd X) (E σ) asm (del H D) ((lc2Go ck q fc fi1 q1 fc1 fe vs1 (wipeD δ vs) (xs.drop i) Sm).bind fun ys S => .ok (accP ++ ys) S) Q, ⟨xs.length, rfl, Nat.zero_le _, as1, S1, [], [], upd_same, Nat.zero_le _, ?_⟩, ?_⟩
  · rw [del_upd nD]
    refine ⟨Ext.refl _ _, s1, .nil, ?_⟩
    rw [List.drop_zero]
    have e : ((lc2Go ck q fc fi1 q1 fc1 fe vs1 (wipeD δ vs) xs S1).bind fun ys S => Res.ok ([] ++ ys) S) = lc2Go ck q fc fi1 q1 fc1 fe vs1 (wipeD δ vs) xs S1 := by
      cases lc2Go ck q fc fi1 q1 fc1 fe vs1 (wipeD δ vs) xs S1 <;> rfl
    rw [e]
    exact w1
  · rintro i m H2 ⟨rfl, hi, asm, Sm, accV, accP, hD, hlen, em, sm, tm, wm⟩
    have eH : upd (del H2 D) D (.lst accV) = H2 := upd_del hD
    have nm : del H2 D D = none := del_same _ _
    have nhm : ¬ asm.hid D := by rw [em.hids]; exact nh
    have sh : SR (wd X) (asm.hide D) H2 Sm := by have := sm.hide (o := .lst accV) nm; rw [eH] at this; exact this
    have xw : Exw as1 H1 (asm.hide D) H2 := by have := em.w.hide (o := .lst accV) nD; rw [eH] at this; exact this
    by_cases hlt : i < xs.length
    · have hx : xs[i]? = some xs[i] := List.getElem?_eq_getElem hlt
      have hd : xs.drop i = xs[i] :: xs.drop (i + 1) := List.drop_eq_getElem_cons hlt
      rw [hd] at wm
      unfold lc2Go at wm
      have hck : ck Sm := by
        refine Classical.byContradiction fun n => ?_
        rw [if_neg n] at wm
        exact wm
      rw [if_pos hck] at wm
      refine .inr ⟨y1.go _ _ _ xw sh hck i hlt, fun H' => (i + 1 ≤ xs.length ∧ ∃ (asm : As) (Sm : AH) (accV : List V) (accP : List PV), H' D = some (.lst accV) ∧ accV.length ≤ 1000 * (i + 1) ∧ Ext as1 H1 asm (del H' D) ∧ SR (wd X) asm (del H' D) Sm ∧ PRs (wd X) asm (del H' D) accV accP ∧
        WF (wd X) (E σ) asm (del H' D) ((lc2Go ck q fc fi1 q1 fc1 fe vs1 (wipeD δ vs) (xs.drop (i + 1)) Sm).bind fun ys S => .ok (accP ++ ys) S) Q), fun H' n => ⟨xs.length - (i + 1), by omega, rfl, n.1, n.2⟩, fun v H' yv => ?_⟩
      obtain ⟨e3, s3, r3⟩ := y1.yld _ _ _ xw sh hck i _ v H' hx yv
      cases eq : q.set xs[i] (wipeD δ vs) with
      | none => rw [eq] at wm; exact wm.elim
      | some δ2 =>
        rw [eq] at wm
        dsimp only at wm
        rw [bind_assoc'] at wm
        have erh : ER (wd X) (asm.hide D) H' (L2.wipe σ vs) (wipeD δ vs) := ((er1.mono xw).wipe vs).mono e3.w
        refine tPat_ok (M := wd X) q erh r3 eq fun σ2 er2 wi2 => ⟨by rw [wi2 vs hq, wipe_idem], ?_⟩
        obtain ⟨b, Sb, eb, wb⟩ := nox_cases (fun r => WF (wd X) (E σ) asm (del H2 D) r Q) (fun z => z) wm
        refine ⟨asm.hide D, δ2, Sm, s3, er2, ?_⟩
        rw [eb]
        intro as4 H4 b4 e4 s4 q4
        cases q4
        have ec : Ext (asm.hide D) (upd (del H2 D) D (.lst accV)) as4 H4 := by rw [eH]; exact e3.trans e4
        cases b with
        | false =>
          rw [if_neg Bool.false_ne_true] at wb ⊢
          obtain ⟨u1, u2, u3⟩ := Ext.unhide nm nhm ec
          rw [u2] at s4
          exact ⟨hlt, ⟨as4.cells, asm.hid⟩, Sb, accV, accP, u3, by omega, em.trans u1, s4.unhide nhm ⟨_, u3⟩, tm.mono u1.w, WF.later u1 wb⟩
        | true =>
          rw [if_pos rfl] at wb ⊢
          rw [bind_assoc'] at wb
          obtain ⟨y, Sy, ey, wy⟩ := nox_cases (fun r => WF (wd X) (E σ) asm (del H2 D) r Q) (fun z => z) wb
          refine ⟨as4, δ2, Sb, s4, er2.mono e4.w, ?_⟩
          rw [ey]
          intro as5 H5 J1 e5 s5 y5
          obtain ⟨zs, ck1⟩ := y
          dsimp only at wy y5
          have hz1 : zs.length ≤ 1000 := by
            refine Classical.byContradiction fun n => ?_
            rw [if_neg n] at wy
            exact wy
          rw [if_pos hz1] at wy
          have ec5 : Ext (asm.hide D) (upd (del H2 D) D (.lst accV)) as5 H5 := ec.trans e5
          have er5 : ER (wd X) as5 H5 σ2 δ2 := (er2.mono e4.w).mono e5.w
          obtain ⟨u1, u2, u3⟩ := Ext.unhide nm nhm ec5
          have nm5 : del H5 D D = none := del_same _ _
          have eH5 : upd (del H5 D) D (.lst accV) = H5 := upd_del u3
          have s5' := s5
          rw [u2] at s5'
          have s5u := s5'.unhide nhm ⟨_, u3⟩
          refine ⟨fun j k H6 => k = zs.length - j ∧ j ≤ zs.length ∧ ∃ (asn : As) (Sn : AH) (accV' : List V) (accP' : List PV), H6 D = some (.lst accV') ∧ accV'.length ≤ 1000 * i + j ∧ Ext ⟨as5.cells, asm.hid⟩ (del H5 D) asn (del H6 D) ∧ SR (wd X) asn (del H6 D) Sn ∧ PRs (wd X) asn (del H6 D) accV' accP' ∧
            WF (wd X) (E σ) asn (del H6 D) (((lcGo ck1 q1 fc1 fe (wipeD δ2 vs1) (zs.drop j) Sn).bind fun us S3 => (lc2Go ck q fc fi1 q1 fc1 fe vs1 (wipeD δ vs) (xs.drop (i + 1)) S3).bind fun ys S4 => .ok (us ++ ys) S4).bind fun ys S => .ok (accP' ++ ys) S) Q,
            ⟨zs.length, rfl, Nat.zero_le _, ⟨as5.cells, asm.hid⟩, Sy, accV, accP, u3, by omega, Ext.refl _ _, s5u, tm.mono u1.w, by
              rw [List.drop_zero]
              exact WF.later u1 wy⟩, ?_⟩
          rintro j k H6 ⟨rfl, hj, asn, Sn, accV', accP', hD6, hlen6, en, sn, tn, wn⟩
          have eH6 : upd (del H6 D) D (.lst accV') = H6 := upd_del hD6
          have nm6 : del H6 D D = none := del_same _ _
          have nhn : ¬ asn.hid D := by rw [en.hids]; exact nhm
          have sh6 : SR (wd X) (asn.hide D) H6 Sn := by have := sn.hide (o := .lst accV') nm6; rw [eH6] at this; exact this
          have xw6 : Exw as5 H5 (asn.hide D) H6 := by
            have := en.w.hide2 (o := .lst accV) (o' := .lst accV') nm5
            rw [eH5, eH6, ← u2] at this
            exact this
          by_cases hltj : j < zs.length
          · have hxj : zs[j]? = some zs[j] := List.getElem?_eq_getElem hltj
            have hdj : zs.drop j = zs[j] :: zs.drop (j + 1) := List.drop_eq_getElem_cons hltj
            rw [hdj] at wn
            unfold lcGo at wn
            have hck1 : ck1 Sn := by
              refine Classical.byContradiction fun n => ?_
              rw [if_neg n] at wn
              exact wn
            rw [if_pos hck1] at wn
            refine .inr ⟨y5.go _ _ _ xw6 sh6 hck1 j hltj, fun H' => (j + 1 ≤ zs.length ∧ ∃ (asn : As) (Sn : AH) (accV' : List V) (accP' : List PV), H' D = some (.lst accV') ∧ accV'.length ≤ 1000 * i + (j + 1) ∧ Ext ⟨as5.cells, asm.hid⟩ (del H5 D) asn (del H' D) ∧ SR (wd X) asn (del H' D) Sn ∧ PRs (wd X) asn (del H' D) accV' accP' ∧
              WF (wd X) (E σ) asn (del H' D) (((lcGo ck1 q1 fc1 fe (wipeD δ2 vs1) (zs.drop (j + 1)) Sn).bind fun us S3 => (lc2Go ck q fc fi1 q1 fc1 fe vs1 (wipeD δ vs) (xs.drop (i + 1)) S3).bind fun ys S4 => .ok (us ++ ys) S4).bind fun ys S => .ok (accP' ++ ys) S) Q), fun H' n => ⟨zs.length - (j + 1), by omega, rfl, n.1, n.2⟩, fun v' H' yv' => ?_⟩
            obtain ⟨e7, s7, r7⟩ := y5.yld _ _ _ xw6 sh6 hck1 j _ v' H' hxj yv'
            cases eq1 : q1.set zs[j] (wipeD δ2 vs1) with
            | none => rw [eq1] at wn; exact wn.elim
            | some δ3 =>
              rw [eq1] at wn
              dsimp only at wn
              rw [bind_assoc', bind_assoc'] at wn
              have erh7 : ER (wd X) (asn.hide D) H' (L2.wipe σ2 vs1) (wipeD δ2 vs1) := ((er5.mono xw6).wipe vs1).mono e7.w
              refine tPat_ok (M := wd X) q1 erh7 r7 eq1 fun σ3 er3 wi3 => ⟨by rw [wi3 vs1 hq1, wipe_idem], ?_⟩
              obtain ⟨b1, Sb1, eb1, wb1⟩ := nox_cases (fun r => WF (wd X) (E σ) asn (del H6 D) r Q) (fun z => z) wn
              refine ⟨asn.hide D, δ3, Sn, s7, er3, ?_⟩
              rw [eb1]
              intro as8 H8 b8 e8 s8 q8
              cases q8
              have ec8 : Ext (asn.hide D) (upd (del H6 D) D (.lst accV')) as8 H8 := by rw [eH6]; exact e7.trans e8
              cases b1 with
              | false =>
                rw [if_neg Bool.false_ne_true] at wb1 ⊢
                obtain ⟨v1, v2, v3⟩ := Ext.unhide nm6 nhn ec8
                rw [v2] at s8
                refine ⟨hltj, ⟨as8.cells, asn.hid⟩, Sb1, accV', accP', v3, by omega, en.trans v1, s8.unhide nhn ⟨_, v3⟩, tn.mono v1.w, ?_⟩
                rw [bind_assoc']
                exact WF.later v1 wb1
              | true =>
                rw [if_pos rfl] at wb1 ⊢
                rw [bind_assoc'] at wb1
                obtain ⟨d, Sd, ed, wd'⟩ := nox_cases (fun r => WF (wd X) (E σ) asn (del H6 D) r Q) (fun z => z) wb1
                refine ⟨as8, δ3, Sb1, s8, er3.mono e8.w, ?_⟩
                rw [ed]
                intro as9 H9 yy e9 s9 r9
                have ec9 : Ext (asn.hide D) (upd (del H6 D) D (.lst accV')) as9 H9 := ec8.trans e9
                obtain ⟨v1, v2, v3⟩ := Ext.unhide nm6 nhn ec9
                rw [v2] at s9 r9
                cases d with
                | c n => exact wd'.elim
                | p yp =>
                  refine ⟨accV', v3, by omega, hltj, ⟨as9.cells, asn.hid⟩, Sd, accV' ++ [yy], accP' ++ [yp], upd_same, by rw [List.length_append, List.length_singleton]; omega, ?_⟩
                  rw [del_updu]
                  refine ⟨en.trans v1, s9.unhide nhn ⟨_, v3⟩, (tn.mono v1.w).append (.cons (PR.unhide r9) .nil), ?_⟩
                  refine WF.later v1 ?_
                  have e : (((lcGo ck1 q1 fc1 fe (wipeD δ2 vs1) (zs.drop (j + 1)) Sd).bind fun us S3 => (lc2Go ck q fc fi1 q1 fc1 fe vs1 (wipeD δ vs) (xs.drop (i + 1)) S3).bind fun ys S4 => Res.ok (us ++ ys) S4).bind fun ys S => Res.ok (accP' ++ [yp] ++ ys) S) =
                      ((lcGo ck1 q1 fc1 fe (wipeD δ2 vs1) (zs.drop (j + 1)) Sd).bind fun us S => Res.ok (yp :: us) S).bind fun us S3 => ((lc2Go ck q fc fi1 q1 fc1 fe vs1 (wipeD δ vs) (xs.drop (i + 1)) S3).bind fun ys S4 => Res.ok (us ++ ys) S4).bind fun ys S => Res.ok (accP' ++ ys) S := by
                    cases lcGo ck1 q1 fc1 fe (wipeD δ2 vs1) (zs.drop (j + 1)) Sd with
                    | ok us S3 =>
                      simp only [Res.bind]
                      cases lc2Go ck q fc fi1 q1 fc1 fe vs1 (wipeD δ vs) (xs.drop (i + 1)) S3 <;> simp [Res.bind]
                    | exc c p S3 => rfl
                    | bad => rfl
                  rw [e]
                  exact wd'
          · have hj' : j = zs.length := by omega
            subst hj'
            rw [List.drop_length] at wn
            unfold lcGo at wn
            have hck1 : ck1 Sn := by
              refine Classical.byContradiction fun n => ?_
              rw [if_neg n] at wn
              exact wn
            rw [if_pos hck1] at wn
            refine .inl ⟨y5.stop _ _ _ xw6 sh6 hck1, hlt, asn, Sn, accV', accP', hD6, by omega, (em.trans u1).trans en, sn, tn, ?_⟩
            have e : ((Res.ok ([] : List PV) Sn).bind fun us S3 => (lc2Go ck q fc fi1 q1 fc1 fe vs1 (wipeD δ vs) (xs.drop (i + 1)) S3).bind fun ys S4 => Res.ok (us ++ ys) S4).bind (fun ys S => Res.ok (accP' ++ ys) S) = (lc2Go ck q fc fi1 q1 fc1 fe vs1 (wipeD δ vs) (xs.drop (i + 1)) Sn).bind fun ys S => Res.ok (accP' ++ ys) S := by
              simp only [Res.bind]
              cases lc2Go ck q fc fi1 q1 fc1 fe vs1 (wipeD δ vs) (xs.drop (i + 1)) Sn <;> simp [Res.bind]
            rw [e] at wn
            exact wn
    · have hi' : i = xs.length := by omega
      subst hi'
      rw [List.drop_length] at wm
      unfold lc2Go at wm
      have hck : ck Sm := by
        refine Classical.byContradiction fun n => ?_
        rw [if_neg n] at wm
        exact wm
      rw [if_pos hck] at wm
      refine .inl ⟨y1.stop _ _ _ xw sh hck, ?_⟩
      have wq : WF (wd X) (E σ) asm (del H2 D) (Res.ok (accP ++ []) Sm) Q := wm
      rw [List.append_nil] at wq
      have := wq.here sm (by omega) tm nm
      rw [eH] at this
      exact this
theorem fe_lc2 {vs1 : List Nat} (g : Gd X E) (hN : X.N.Nodup) (hi : DI X E tg iter fi) (ok : BlkOk X.N X.env.scope scope own) (hv : ∀ i ∈ vs1, i ∈ own.map (·.2))
    (hg : ∀ (s : Shared) (H : Hp) (C : Addr) (cl : List (Str × Addr)) (fp : List Addr), DG (X.blk s H scope (compEnvC scope cl C X.env) fp) tg q) (ht : ∀ (s : Shared) (H : Hp) (C : Addr) (cl : List (Str × Addr)) (fp : List Addr), DTs (X.blk s H scope (compEnvC scope cl C X.env) fp) EN ifs fc)
    (hi1 : ∀ (s : Shared) (H : Hp) (C : Addr) (cl : List (Str × Addr)) (fp : List Addr), DI (X.blk s H scope (compEnvC scope cl C X.env) fp) EN tg1 iter1 fi1)
    (hg1 : ∀ (s : Shared) (H : Hp) (C : Addr) (cl : List (Str × Addr)) (fp : List Addr), DG (X.blk s H scope (compEnvC scope cl C X.env) fp) tg1 q1) (ht1 : ∀ (s : Shared) (H : Hp) (C : Addr) (cl : List (Str × Addr)) (fp : List Addr), DTs (X.blk s H scope (compEnvC scope cl C X.env) fp) EN ifs1 fc1)
    (he : ∀ (s : Shared) (H : Hp) (C : Addr) (cl : List (Str × Addr)) (fp : List Addr), DE (X.blk s H scope (compEnvC scope cl C X.env) fp) EN elt fe) (hq : ∀ i ∈ q.slots, i ∈ own.map (·.2)) (hq1 : ∀ i ∈ q1.slots, i ∈ vs1) (hs : ∀ x, foldedSetIterable iter X.env x = pure x := by intro _; rfl) (hs1 : ∀ env x, foldedSetIterable iter1 env x = pure x := by intro _ _; rfl) :
    FE X E (.ListComp elt [⟨tg, iter, ifs, 0⟩, ⟨tg1, iter1, ifs1, 0⟩] scope pos) (dLc2 fi q fc fi1 q1 fc1 fe (own.map (·.2)) vs1) :=
  L2.PE.imp (pe_lc2 g.calm hN hi ok hv hg ht hi1 hg1 ht1 he hs hs1) fun σ H Q ⟨as, δ, S, sr, er, w⟩ => lc2_t hq hq1 sr er w
end
end
end DL
namespace DL
noncomputable section
open PySem PySem.Spec PyProof.Rows L2

/-! ### min of a tuple of numbers -/
def minO2 : OpN := fun ds S => match ds with
  | [.p (.tup xs)] => match intsOf xs with
    | some ns => if ns ≠ [] then some (.p (.int (minI ns)), S) else none
    | none => none
  | _ => minO ds S
theorem fold_min : ∀ (xs : List Int) (x : Int), PySem.W.minOf x xs ∈ x :: xs ∧ ∀ y ∈ x :: xs, PySem.W.minOf x xs ≤ y
  | [], x => ⟨List.mem_cons_self, fun y hy => by rw [List.mem_singleton.mp hy]; exact Int.le_refl _⟩
  | a :: xs, x => by
    have e : PySem.W.minOf x (a :: xs) = PySem.W.minOf (if a < x then a else x) xs := by
      show xs.foldl _ (if decide (a < x) = true then a else x) = _
      simp only [decide_eq_true_eq]
      rfl
    rw [e]
    obtain ⟨h1, h2⟩ := fold_min xs (if a < x then a else x)
    constructor
    · rcases List.mem_cons.mp h1 with h | h
      · rw [h]
        split
        · simp
        · simp
      · exact List.mem_cons_of_mem _ (List.mem_cons_of_mem _ h)
    · intro y hy
      have m := h2 _ List.mem_cons_self
      have z : (if a < x then a else x) ≤ a ∧ (if a < x then a else x) ≤ x := by split <;> omega
      rcases List.mem_cons.mp hy with rfl | hy
      · exact Int.le_trans m z.2
      · rcases List.mem_cons.mp hy with rfl | hy
        · exact Int.le_trans m z.1
        · exact h2 y (List.mem_cons_of_mem _ hy)
section
variable {X : Cx}
theorem cr_minT (hc : X.calm = true) (hu : X.A.units + 64 < cLine) : CallR X (.builtin "min") (fun vs H Q => ∃ (a : Addr) (ns : List Int), vs = [V.ref a] ∧ SqT X.K H a (ns.map V.int) ∧ ns ≠ [] ∧ Q (.int (minI ns)) H) := by
  intro pins s σ H vs us Q I r h
  obtain ⟨a, ns, rfl, hs, hn, q⟩ := h
  obtain ⟨its, rv, ht, _⟩ := I.tuple hs
  rw [Vals.ref1 r]
  cases ns with
  | nil => exact absurd rfl hn
  | cons x xs =>
    refine PySem.W.min_tuple_datum (α := Int) (I.ok.hd hc) (show s.heap.IsTuple a its.toArray from ht) (x := x) (xs := xs) (by simpa using PySem.W.HoldAll.of_ints rv.ints) (by show X.A.units + 1 + 0 < cLine; omega) fun i v h' tk hi hv hk => ?_
    obtain ⟨t, rfl⟩ := PySem.W.int_of_holds hv
    have e : PySem.W.minOf x xs = minI (x :: xs) := by
      obtain ⟨h1, h2⟩ := fold_min xs x
      obtain ⟨g1, g2⟩ := minI_mem (x :: xs) hn
      exact Int.le_antisymm (h2 _ g1) (g2 _ h1)
    rw [e]
    exact ⟨.int _, H, I.kept hk, ⟨_, rfl⟩, q⟩
theorem ow_min2 (hc : X.calm = true) (hu : X.A.units + 64 < cLine) : CallR X (.builtin "min") (rON (wd X) minO2) := by
  intro pins s σ H vs us Q I rv h
  obtain ⟨as, S, ds, sr, r, w⟩ := h
  unfold minO2 at w
  split at w
  · obtain ⟨v, rfl, r1⟩ := DVRs.one r
    cases r1 with
    | tup hh t =>
      split at w
      · rename_i ns e2
        rw [intsOf_ok e2] at t
        have q := hh.sq
        rw [t.ints] at q
        split at w
        · rename_i hne
          exact cr_minT hc hu pins s σ H _ us Q I rv ⟨_, ns, rfl, q, hne, w.here sr (.int _)⟩
        · exact w.elim
      · exact w.elim
  · exact ow_min hc pins s σ H vs us Q I rv ⟨as, S, ds, sr, r, w⟩
theorem min2_tup {l : List Int} {S : AH} (hn : l ≠ []) : minO2 [.p (.tup (l.map PV.int))] S = some (.p (.int (minI l)), S) := by
  unfold minO2
  simp only [intsOf_map]
  rw [if_pos hn]
@[simp] theorem min2_int {i j : Int} {S : AH} : minO2 [.p (.int i), .p (.int j)] S = some (.p (.int (if j < i then j else i)), S) := rfl
end
end
end DL
namespace DL
noncomputable section
open PySem PySem.Spec PyProof.Rows L2

/-! ### k in xs, k not in xs: numbers -/
def inO : Op2 := fun a b S => match a, items b S with
  | .p (.int k), some xs => match intsOf xs with
    | some ns => some (.p (.bl (decide (k ∈ ns))), S)
    | none => none
  | _, _ => none
def notInO : Op2 := fun a b S => match a, items b S with
  | .p (.int k), some xs => match intsOf xs with
    | some ns => some (.p (.bl (!decide (k ∈ ns))), S)
    | none => none
  | _, _ => none
theorem flat_ints : ∀ ns : List Int, (ns.map V.int).all flatV = true
  | [] => rfl
  | n :: ns => by rw [List.map_cons, List.all_cons, flat_ints ns]; rfl
theorem inV_ints (k : Int) : ∀ ns : List Int, inV (.int k) (ns.map V.int) = decide (k ∈ ns)
  | [] => by simp [inV]
  | n :: ns => by
    have ih := inV_ints k ns
    unfold inV at ih ⊢
    rw [List.map_cons, List.any_cons, ih]
    show ((n == k) || _) = _
    by_cases h : n = k
    · subst h; simp
    · have h' : ¬ k = n := fun e => h e.symm
      simp [h, h']
section
variable {X : Cx}
theorem ow_in : OpR X (compareOp .In) (rO (wd X) inO) := by
  intro pins s σ H x y v u Q I rx ry h
  obtain ⟨as, S, d1, d2, sr, r1, r2, w⟩ := h
  unfold inO at w
  split at w
  · rename_i k xs e
    cases r1
    obtain ⟨a, vs, rfl, z, q, t⟩ := items_sq sr r2 e
    split at w
    · rename_i ns e2
      rw [intsOf_ok e2] at t
      rw [t.ints] at q
      refine op_in_seq pins s σ H _ _ v u Q I rx ry ⟨a, _, rfl, q, rfl, flat_ints ns, ?_⟩
      rw [if_neg Bool.false_ne_true, inV_ints]
      exact w.here sr (.bl _)
    · exact w.elim
  · exact w.elim
theorem ow_notIn : OpR X (compareOp .NotIn) (rO (wd X) notInO) := by
  intro pins s σ H x y v u Q I rx ry h
  obtain ⟨as, S, d1, d2, sr, r1, r2, w⟩ := h
  unfold notInO at w
  split at w
  · rename_i k xs e
    cases r1
    obtain ⟨a, vs, rfl, z, q, t⟩ := items_sq sr r2 e
    split at w
    · rename_i ns e2
      rw [intsOf_ok e2] at t
      rw [t.ints] at q
      refine op_notIn_seq pins s σ H _ _ v u Q I rx ry ⟨a, _, rfl, q, rfl, flat_ints ns, ?_⟩
      rw [if_pos rfl, inV_ints]
      exact w.here sr (.bl _)
    · exact w.elim
  · exact w.elim
end
end
end DL
namespace DL
open PySem PySem.Spec PyProof.Rows L2

/-! ### set(xs), xs a list of numbers -/
/-- a set as it is made -/
abbrev nS (w : World) : Obj := { cls := .type "set", dict := none, data := .set #[] 0 (.fresh 0 0 (!w.params.followText "set-order")) }
set_option maxHeartbeats 6400000 in
theorem set_of_list {P : Program} {w : World} {A : Around} {E : Value → Shared → Prop} {s : Shared} {l : Addr} {xs : Array Value} (ns : List Int) {Q : Value → Shared → Prop}
    (nh : A.handled = none) (il : s.heap.IsList l xs) (ix : IntsAre xs.toList ns) (bd : ns.length + 1 < scanBound)
    (k : ∀ (g : Heap) (t c : Nat), SetR w g s.heap.objs.size (fun j => decide (j ∈ ns)) c → c ≤ ns.length → (∀ b o, s.heap.get? b = some o → g.get? b = some o) → Q (.ref s.heap.objs.size) { s with heap := g, toks := t }) :
    wpAny (model P w) A (call (.type "set") [.ref l]) Q E s := by
  have sz : xs.size = ns.length := (Array.length_toList (xs := xs)).symm.trans (IntsAre.length ix)
  obtain ⟨c0, tl, r1⟩ := PySem.F.called_set.mro
  have r2 := PySem.F.called_set.made
  have r3 := PySem.F.called_set.sub
  refine wpAny_call (codeAny_of_tree ?_)
  show wpAny _ _ (callAny (.type "set") _) _ _ _
  refine wpAny_pure ⟨Code.quiet_builtin _ (by decide +kernel), codeAny_builtin PySem.F.entry_type_call ?_⟩
  rw [Around.under_plain (weight_type_call_type "set" [.ref l] []) rfl]
  have r4 := PySem.F.called_set.notType
  have r5 := PySem.F.called_set.canCreate
  have r6 := PySem.F.typeCall_set_1 (.ref l)
  repeat (any_goals (first | assumption | wp_step))
  refine codeAny_mono (code_set_led1 (.ref l) (E := E) (Q₁ := fun v s1 => v = .ref s.heap.objs.size ∧ s1 = { s with heap := s.heap.push (nS w) }) ⟨rfl, rfl⟩) fun r s1 h1 => ?_
  cases r with
  | error e => exact h1
  | ok fl =>
    cases fl with
    | ret v =>
      obtain ⟨rfl, rfl⟩ := h1
      have at0 : (s.heap.push (nS w)).get? s.heap.objs.size = some (nS w) := Heap.get?_push_size _ rfl
      have ty : Shared.TypeIs { s with heap := s.heap.push (nS w) } (.ref s.heap.objs.size) "set" := ⟨_, at0, rfl⟩
      have r7 := PySem.F.called_set.init.lookup
      have r8 := PySem.F.called_set.init.bind (.ref s.heap.objs.size)
      repeat (any_goals (first | assumption | wp_step))
      refine codeAny_mono (codeAny_call_builtin (R := wants (fun r s2 => r = .none ∧ ∃ g t c, s2 = { s with heap := g, toks := t } ∧ SetR w g s.heap.objs.size (fun j => decide (j ∈ ns)) c ∧ c ≤ ns.length ∧ ∀ b o, s.heap.get? b = some o → g.get? b = some o) E)
        PySem.F.called_set.init.plain PySem.F.entry_set_init (check_set_init_1 ty ?_)) fun r2 s2 h2 => ?_
      · obtain ⟨ol, e1, e2, m, e3⟩ := il
        obtain ⟨oc, od, oo, os⟩ := ol
        simp only at e2 e3
        subst e2; subst e3
        have at1 : (s.heap.push (nS w)).get? l = some { cls := .type "list", dict := od, data := .seq xs m, slots := os } := Heap.get?_push_of_some _ e1
        have n1 := PySem.F.sub_list_set
        have n2 := PySem.F.sub_list_frozenset
        have n3 : (Value.type "list" == Value.type "dict") = false := by decide
        have il1 : (s.heap.push (nS w)).IsList l xs := ⟨_, at1, rfl, m, rfl⟩
        unfold Builtin.«set.__init__» noKeywords Builtin.Frozenset.updateFrom
        generalize hp : pyIter = pit
        wp_walk
        subst hp
        refine wpAny_pyIter_list il1 ?_
        refine wpAny_bind (wpAny_runValue ?_)
        have lt : l < s.heap.objs.size := Heap.lt_size e1
        have nh3 : A.in1.in1.in1.handled = none := by simp [nh]
        have z1 : (s.heap.push (nS w)).objs.size = s.heap.objs.size + 1 := Heap.size_push ..
        have ne1 : l ≠ (s.heap.push (nS w)).objs.size := by rw [z1]; exact Nat.ne_of_lt (Nat.lt_succ_of_lt lt)
        have ne2 : s.heap.objs.size ∉ [(s.heap.push (nS w)).objs.size, l] := fun q => by
          simp only [List.mem_cons, List.not_mem_nil, or_false] at q
          rcases q with q | q
          · rw [z1] at q; exact Nat.ne_of_lt (Nat.lt_succ_self _) q
          · exact Nat.ne_of_gt lt q
        have vals : ∀ (i : Nat) (v : Value), xs[i]? = some v → ∃ z t, ns[i]? = some z ∧ v = .int z t := fun i v hv => by
          have lt2 : i < ns.length := sz ▸ (Array.getElem?_eq_some_iff.mp hv).1
          obtain ⟨t, e⟩ := IntsAre.int_at ix i v (by rw [Array.getElem?_toList]; exact hv)
          exact ⟨ns[i], t, List.getElem?_eq_getElem lt2, by rw [e, List.getD_eq_getElem?_getD, List.getElem?_eq_getElem lt2] <;> rfl⟩
        refine set_update_ints ((Walks.list nh3 _ l ne1 xs).toS) s.heap.objs.size ne2 ns sz bd vals xs.size 0 _ (by omega) (Nat.zero_le _) ⟨⟨_, Heap.get?_push_size _ rfl, rfl, rfl⟩, il1.push _⟩ ?start ?fin
        case start => exact ⟨0, Nat.le_refl 0, setR_new_at (Heap.get?_push_of_some _ at0)⟩
        case fin =>
          intro s3 c mv cl sr
          obtain ⟨g, gg, dd, tt, oo3⟩ := s3
          have x1 : gg = s.gens := mv.gens
          have x2 : dd = s.drawn := mv.drawn
          have x3 : oo3 = s.os := mv.os
          subst x1; subst x2; subst x3
          show wpAny _ _ _ _ _ _
          refine wpAny_pure ?_
          show wpAny _ _ (ret Value.none) _ _ _
          rw [sz] at cl
          refine wpAny_pure ⟨rfl, g, tt, c, rfl, sr, cl, fun b o e => mv.heap b o (fun q => ?_) (Heap.get?_push_of_some _ (Heap.get?_push_of_some _ e))⟩
          have := Heap.lt_size e
          simp only [List.mem_cons, List.not_mem_nil, or_false] at q
          rcases q with q | q
          · exact Nat.ne_of_lt this q
          · rw [z1] at q; exact Nat.ne_of_lt (Nat.lt_succ_of_lt this) q
      · cases r2 with
        | error e => exact h2
        | ok fl2 =>
          cases fl2 with
          | ret r =>
            obtain ⟨rfl, g, t, c, rfl, sr, cl, kp⟩ := h2
            repeat (any_goals (first | assumption | wp_step))
            exact k g t c sr cl kp
          | _ => exact h2.elim
    | _ => exact h1.elim
end DL
namespace DL
noncomputable section
open PySem PySem.Spec PyProof.Rows L2

/-! ### sorted(set(xs)), xs a list or a tuple of numbers -/
def rSetU (K : PySem.W.Frag) (w : World) : List V → Hp → VK → Prop := fun vs H Q => ∃ (l : Addr) (ns : List Int), vs = [V.ref l] ∧ (SqL K H l (ns.map V.int) ∨ SqT K H l (ns.map V.int)) ∧ ns.length ≤ 1000 ∧ ∀ a c, H a = none → c ≤ ns.length → Q (.ref a) (upd H a (SetO w a (fun j => decide (j ∈ ns)) c))
section
variable {X : Cx}
theorem cr_setU (hc : X.calm = true) : CallR X (.type "set") (rSetU X.K X.w) := by
  intro pins s σ H vs us Q I r ⟨l, ns, ev, hq, hz, q⟩
  rcases hq with hq | hq
  · subst ev
    rw [Vals.ref1 r]
    obtain ⟨its, rv, pl, _⟩ := I.list hq
    exact set_of_list ns (I.ok.hd hc) (show s.heap.IsList l its.toArray from pl.isList) (by simpa using rv.ints) (by unfold scanBound; omega) fun h' tk c R1 hcn k =>
      ⟨.ref s.heap.objs.size, _, I.laid (t' := tk) k (Nat.le_refl _) (setO_new R1), rfl, q _ c (I.hok.fresh (Nat.le_refl _)) hcn⟩
  · exact cr_setI hc pins s σ H vs us Q I r ⟨l, ns, ev, hq, hz, q⟩
def ssetU : OpF := fun ds S => match ds with
  | [d] => match items d S with
    | some xs => match intsOf xs with
      | some ns => if ns.length < 64 then some ((srtU ns).map PV.int) else none
      | none => none
    | none => none
  | _ => none
end
section
variable {X : Cx} {E : L2.St → XK} {e : Expr} {p p2 q pos : Pos} {fe : Sig → AH → Res DV}
theorem fe_ssetU (g : Gd X E) (hg : Gl X "sorted") (hm : X.mg "sorted" = none) (hg2 : Gl X "set") (hm2 : X.mg "set" = none) (he : DE X E e fe) (hs : starEach [e] X.env = [(false, eval e X.env)] := by rfl) (hs2 : starEach [Expr.Call (.Name "set" p2) [e] [] q] X.env = [(false, eval (Expr.Call (.Name "set" p2) [e] [] q) X.env)] := by rfl) :
    FE X E (.Call (.Name "sorted" p) [.Call (.Name "set" p2) [e] [] q] [] pos) (dAppF ssetU (dCons fe dNil)) :=
  (pe_callB (cr_sortedSet g.calm) hg hm (by kernel_rfl) (pa_cons (pe_callTy (cr_setU g.calm) hg2 hm2 (by kernel_rfl) (pa_cons he pa_nil hs) (by decide) (by decide) hs rfl) pa_nil hs2) (by decide) (by decide) hs2 rfl).imp fun σ H Q ⟨as, δ, S, sr, er, w⟩ => by
  have w : WF (wd X) (E σ) as H ((fe δ S).bind fun d S1 => match ssetU [d] S1 with
    | some ps => .ok ps S1
    | none => .bad) Q := by
    have e1 : dAppF ssetU (dCons fe dNil) δ S = (fe δ S).bind fun d S1 => match ssetU [d] S1 with
      | some ps => .ok ps S1
      | none => .bad := by
      show (Res.bind (Res.bind (fe δ S) _) _) = _
      cases fe δ S <;> rfl
    rw [← e1]
    exact w
  refine ⟨as, δ, S, sr, er, (WF.bind (R := DVR (wd X)) w).mono fun _ _ _ _ v _ _ _ _ ⟨as1, S1, d1, _, x1, s1, r1, w1⟩ => ?_⟩
  cases e0 : items d1 S1 with
  | none => simp only [ssetU, e0] at w1; exact w1.elim
  | some xs =>
    cases e1 : intsOf xs with
    | none => simp only [ssetU, e0, e1] at w1; exact w1.elim
    | some ns =>
      by_cases h64 : ns.length < 64
      case neg => simp only [ssetU, e0, e1, if_neg h64] at w1; exact w1.elim
      simp only [ssetU, e0, e1, if_pos h64] at w1
      obtain ⟨l, vs, rfl, hz, hq, t⟩ := items_sq s1 r1 e0
      rw [intsOf_ok e1] at t
      rw [t.ints] at hq
      refine ⟨l, ns, rfl, hq, by omega, fun a c na hc => ⟨a, _, c, rfl, upd_same, by omega, fun ns' p asc mem len np => ?_⟩⟩
      have en : ns' = srtU ns := asc_same asc (srtU_asc ns) fun k => by rw [mem k, srtU_mem]; simp
      subst en
      have x2 := ext_new (o := SetO X.w a (fun j => decide (j ∈ ns)) c) s1 na
      exact (WF.later x2 w1).here (s1.new na) (by rw [List.length_map, sizeLine_eq]; omega) (PRs.of_ints _) np
end
theorem ssetU_lst {ns : List Int} {S : AH} (h : ns.length < 64) : ssetU [.p (.lst (ns.map PV.int))] S = some ((srtU ns).map PV.int) := by
  show (match intsOf (ns.map PV.int) with | some ns => if ns.length < 64 then some ((srtU ns).map PV.int) else none | none => none) = _
  rw [intsOf_map]
  exact if_pos h
end
end DL
namespace DL
noncomputable section
open PySem PySem.Spec PyProof.Rows L2

/-! ### a, b, c = x, y, z -/
section
variable {X : Cx} {E : L2.St → XK} {i j l : Nat} {x y z : Str} {a b c : Expr} {px py pz pt pos : Pos} {kt k2 : Nat} {pt2 : Pos} {fs : Sig → AH → Res (List DV)}
theorem ds_parT (hc : X.calm = true) (hN : X.N.Nodup) (hi : X.N[i]? = some x) (hj : X.N[j]? = some y) (hl : X.N[l]? = some z) (hij : i ≠ j) (hil : i ≠ l) (hjl : j ≠ l)
    (hx : X.env.scope.names.lookup x = some .local) (hy : X.env.scope.names.lookup y = some .local) (hz : X.env.scope.names.lookup z = some .local) (ha : DA X E [a, b, c] fs)
    (hw : swappedStores [.Tuple [.Name x px, .Name y py, .Name z pz] kt pt] (.Tuple [a, b, c] k2 pt2) X.env = pure (some [x, y, z]))
    (hs : swapsWithSole [.Tuple [.Name x px, .Name y py, .Name z pz] kt pt] (.Tuple [a, b, c] k2 pt2) pos.line X.env = pure false := by rfl) :
    DS X E (.Assign [.Tuple [.Name x px, .Name y py, .Name z pz] kt pt] (.Tuple [a, b, c] k2 pt2) pos) (dPar3 i j l fs) := (ps_par3 hc hN hi hj hl hij hil hjl hx hy hz ha hw hs).imp fun D σ H ⟨as, δ, S, sr, er, w⟩ =>
  ⟨as, δ, S, sr, er, (w.bind er).mono fun _ _ _ _ _ _ _ _ _ ⟨as1, S1, d1, _, x1, s1, r1, w1⟩ => by
    split at w1
    · obtain ⟨v, v2, v3, rfl, r, r', r''⟩ := DVRs.three r1
      exact ⟨_, _, _, rfl, w1.here s1 ((((er.mono x1.w).set r i).set r' j).set r'' l)⟩
    · exact w1.elim⟩
end
end
end DL
namespace DL
noncomputable section
open PySem PySem.Spec PyProof.Rows L2

/-! ### sorted(xs), xs a list of pairs of numbers -/
def leP (p q : Int × Int) : Prop := p.1 < q.1 ∨ (p.1 = q.1 ∧ p.2 ≤ q.2)
instance (p q : Int × Int) : Decidable (leP p q) := by unfold leP; exact inferInstance
def insP (a : Int × Int) : List (Int × Int) → List (Int × Int)
  | [] => [a]
  | b :: r => if leP a b then a :: b :: r else b :: insP a r
def sortP : List (Int × Int) → List (Int × Int)
  | [] => []
  | a :: r => insP a (sortP r)
theorem insP_perm (a : Int × Int) : ∀ l, (insP a l).Perm (a :: l)
  | [] => List.Perm.refl _
  | b :: r => by
    unfold insP
    split
    · exact List.Perm.refl _
    · exact ((insP_perm a r).cons b).trans (List.Perm.swap a b r)
theorem sortP_perm : ∀ l, (sortP l).Perm l
  | [] => List.Perm.refl _
  | a :: r => (insP_perm a (sortP r)).trans ((sortP_perm r).cons a)
theorem insP_sorted (a : Int × Int) : ∀ {l}, l.Pairwise leP → (insP a l).Pairwise leP
  | [], _ => by simp [insP]
  | b :: r, h => by
    have h' := List.pairwise_cons.mp h
    unfold insP
    split
    · rename_i z
      refine List.pairwise_cons.mpr ⟨fun y hy => ?_, h⟩
      rcases List.mem_cons.mp hy with rfl | hy
      · exact z
      · have := h'.1 y hy
        unfold leP at *
        omega
    · rename_i z
      refine List.pairwise_cons.mpr ⟨fun y hy => ?_, insP_sorted a h'.2⟩
      rcases List.mem_cons.mp ((insP_perm a r).mem_iff.mp hy) with rfl | hy
      · unfold leP at *
        omega
      · exact h'.1 y hy
theorem sortP_sorted : ∀ l, (sortP l).Pairwise leP
  | [] => .nil
  | a :: r => insP_sorted a (sortP_sorted r)
theorem leP_anti {a b : Int × Int} (h1 : leP a b) (h2 : leP b a) : a = b := by
  unfold leP at *
  exact Prod.ext (by omega) (by omega)
theorem sortP_only {l m : List (Int × Int)} (h : m.Perm l) (s : m.Pairwise leP) : m = sortP l := (h.trans (sortP_perm l).symm).eq_of_pairwise (fun _ _ _ _ h1 h2 => leP_anti h1 h2) s (sortP_sorted l)
def pairP (p : Int × Int) : PV := .tup [.int p.1, .int p.2]
def pairsP : List PV → Option (List (Int × Int))
  | [] => some []
  | .tup [.int i, .int j] :: r => (pairsP r).map fun t => (i, j) :: t
  | _ :: _ => none
theorem pairsP_ok : ∀ {ps : List PV} {l : List (Int × Int)}, pairsP ps = some l → ps = l.map pairP
  | [], l, h => by
    obtain rfl : [] = l := by simpa [pairsP] using h
    rfl
  | p :: r, l, h => by
    unfold pairsP at h
    split at h
    · rename_i e; cases e
    · rename_i i j r' e
      cases e
      obtain ⟨t, h1, rfl⟩ := Option.map_eq_some_iff.mp h
      rw [List.map_cons, ← pairsP_ok h1]
      rfl
    · cases h
theorem pairsP_map : ∀ l : List (Int × Int), pairsP (l.map pairP) = some l
  | [] => rfl
  | p :: l => by rw [List.map_cons, pairP, pairsP, pairsP_map l]; rfl
def sortedF2 : OpF := fun ds S => match ds with
  | [d] => match litems d S with
    | some xs => match pairsP xs with
      | some ps => some ((sortP ps).map pairP)
      | none => sortedF [d] S
    | none => sortedF [d] S
  | _ => none
section
variable {M : Wd} {as as' : As} {H H' : Hp}
theorem PRs.pairs : ∀ {vs : List V} {l : List (Int × Int)}, PRs M as H vs (l.map pairP) → ∃ ks : List (Addr × (Int × Int)), vs = ks.map (fun p => V.ref p.1) ∧ ks.map (·.2) = l ∧ ∀ p ∈ ks, PR M as H (.ref p.1) (pairP p.2)
  | [], [], _ => ⟨[], rfl, rfl, fun p h => by cases h⟩
  | v :: vs, n :: l, .cons r t => by
    obtain ⟨ks, h1, h2, h3⟩ := PRs.pairs t
    cases r with
    | tup h q => exact ⟨(_, n) :: ks, by rw [h1]; rfl, by rw [← h2]; rfl, fun p hp => by
        rcases List.mem_cons.mp hp with rfl | hp
        · exact .tup h q
        · exact h3 p hp⟩
theorem PR.sqp {a : Addr} {p : Int × Int} (h : PR M as H (.ref a) (pairP p)) : SqT M.K H a [V.int p.1, V.int p.2] := by
  cases h with
  | tup h t =>
    have := h.sq
    rwa [PRs.ints (ns := [p.1, p.2]) t] at this
/-- the pair at an address -/
def atK (ks : List (Addr × (Int × Int))) (u : Value) : Int × Int := match u with
  | .ref a => ((ks.find? fun p => decide (p.1 = a)).map (·.2)).getD (0, 0)
  | _ => (0, 0)
theorem atK_mem {ks : List (Addr × (Int × Int))} {a : Addr} (h : ∃ p ∈ ks, p.1 = a) : ∃ p ∈ ks, p.1 = a ∧ atK ks (.ref a) = p.2 := by
  obtain ⟨p, hp, e⟩ := h
  cases q : ks.find? fun p => decide (p.1 = a) with
  | none =>
    have := List.find?_eq_none.mp q p hp
    simp [e] at this
  | some r =>
    have h1 := List.find?_some q
    exact ⟨r, List.mem_of_find?_eq_some q, by simpa using h1, by unfold atK; simp [q]⟩
theorem prs_pairs : ∀ {ks : List (Addr × (Int × Int))}, (∀ p ∈ ks, PR M as H (.ref p.1) (pairP p.2)) → PRs M as H (ks.map fun p => V.ref p.1) ((ks.map (·.2)).map pairP)
  | [], _ => .nil
  | p :: ks, h => .cons (h p List.mem_cons_self) (prs_pairs fun q hq => h q (List.mem_cons_of_mem _ hq))
end
section
variable {X : Cx}
theorem ow_sorted2 : CallR X (.builtin "sorted") (rFN (wd X) sortedF2) := by
  intro pins s σ H vs us Q I rv h
  obtain ⟨as, S, ds, ps, sr, r, e, q⟩ := h
  unfold sortedF2 at e
  split at e
  case h_2 => cases e
  split at e
  case h_2 => exact ow_sorted pins s σ H vs us Q I rv ⟨as, S, _, ps, sr, r, e, q⟩
  split at e
  case h_2 => exact ow_sorted pins s σ H vs us Q I rv ⟨as, S, _, ps, sr, r, e, q⟩
  rename_i d _ xs e1 _ l e2
  cases e
  obtain ⟨v, rfl, r1⟩ := DVRs.one r
  obtain ⟨a, ws, rfl, z, q2, t⟩ := litems_sq sr r1 e1
  rw [pairsP_ok e2] at t
  obtain ⟨ks, k1, k2, k3⟩ := t.pairs
  subst k1
  obtain ⟨its, iv, hl, hz⟩ := I.list q2
  obtain ⟨u, rfl, ru⟩ := vals1 rv
  obtain rfl : u = Value.ref a := ru
  obtain ⟨e3, e4⟩ := refs_back iv fun x m => by
    obtain ⟨p, _, rfl⟩ := List.mem_map.mp m
    exact ⟨p.1, rfl⟩
  have inK : ∀ u ∈ its, ∃ p ∈ ks, u = Value.ref p.1 := fun u hu => by
    obtain ⟨b, rfl⟩ := e4 u hu
    have : backV (.ref b) ∈ ks.map fun p => V.ref p.1 := by rw [e3]; exact List.mem_map.mpr ⟨_, hu, rfl⟩
    obtain ⟨p, hp, e5⟩ := List.mem_map.mp this
    have : p.1 = b := V.ref.inj e5
    exact ⟨p, hp, by rw [this]⟩
  have good : ∀ u ∈ its, ∃ p ∈ ks, u = Value.ref p.1 ∧ atK ks u = p.2 := fun u hu => by
    obtain ⟨p, hp, rfl⟩ := inK u hu
    obtain ⟨p', h1, h2, h3⟩ := atK_mem (ks := ks) ⟨p, hp, rfl⟩
    exact ⟨p', h1, by rw [h2], h3⟩
  have same : ∀ p ∈ ks, atK ks (.ref p.1) = p.2 := fun p hp => by
    obtain ⟨p', h1, h2, h3⟩ := atK_mem (ks := ks) ⟨p, hp, rfl⟩
    have s1 := (k3 p hp).sqp
    have s2 := (k3 p' h1).sqp
    rw [h2] at s2
    have := I.tuple_inj s1 s2
    rw [h3]
    simp only [List.cons.injEq, V.int.injEq, and_true] at this
    exact Prod.ext this.1.symm this.2.symm
  have itsK : its.map (atK ks) = l := by
    have : its = ks.map fun p => Value.ref p.1 := by
      have := congrArg (List.map fun v : V => match v with
        | .ref b => Value.ref b
        | _ => Value.none) e3
      rw [List.map_map, List.map_map] at this
      refine Eq.trans ?_ this.symm
      have id1 : its = its.map id := (List.map_id its).symm
      refine id1.trans (List.map_congr_left fun u hu => ?_)
      obtain ⟨b, rfl⟩ := e4 u hu
      rfl
    rw [this, List.map_map, ← k2]
    exact List.map_congr_left fun p hp => same p hp
  refine SrtO.sorted_pairsO (k := atK ks) hl.isList (by rw [← iv.length]; exact hz) (fun v hv => ?_) fun h' d2 out h1 h2 kp hd hn => ?_
  · obtain ⟨p, hp, rfl, e5⟩ := good v hv
    obtain ⟨its2, r2, tp, _⟩ := I.tuple (k3 p hp).sqp
    rw [e5]
    obtain ⟨u1, u2, rfl, ri, rj⟩ := vals2 r2
    obtain ⟨t1, rfl⟩ := ri
    obtain ⟨t2, rfl⟩ := rj
    obtain ⟨o, ho, hc, n, hd⟩ := tp
    exact ⟨p.1, o, t1, t2, n, rfl, ho, hc, hd⟩
  · have h3 : ∀ u ∈ out, ∃ a, u = Value.ref a := fun u hu => e4 u (h2.perm.mem_iff.mp hu)
    obtain ⟨n, hn⟩ := hn
    have zl : (out.map backV).length ≤ sizeLine := by
      rw [List.length_map, h2.perm.length_eq, ← iv.length]
      exact hz
    have srt : out.map (atK ks) = sortP l := by
      refine sortP_only (by rw [← itsK]; exact h2.perm.map _) (List.pairwise_map.mpr (h1.imp fun {x y} hxy => ?_))
      have := SrtO.lexB_no.mp hxy
      unfold leP
      omega
    have pr : PRs (wd X) as H (out.map backV) ((sortP l).map pairP) := by
      rw [← srt]
      have go : ∀ us : List Value, (∀ u ∈ us, u ∈ its) → PRs (wd X) as H (us.map backV) ((us.map (atK ks)).map pairP) := by
        intro us
        induction us with
        | nil => intro _; exact .nil
        | cons u us ih =>
          intro hu
          obtain ⟨p, hp, rfl, e5⟩ := good u (hu u List.mem_cons_self)
          refine .cons ?_ (ih fun v hv => hu v (List.mem_cons_of_mem _ hv))
          rw [e5]
          exact k3 p hp
      exact go out fun u hu => h2.perm.mem_iff.mp hu
    exact ⟨.ref d2, upd H d2 (.lst (out.map backV)), I.laid (t' := s.toks) kp hd ⟨zl, out, n, vals_back h3, hn⟩, rfl, q d2 _ zl pr (I.hok.fresh hd)⟩
end
theorem sortedF2_pairs {l : List (Int × Int)} {S : AH} : sortedF2 [.p (.lst (l.map pairP))] S = some ((sortP l).map pairP) := by
  show (match pairsP (l.map pairP) with | some ps => some ((sortP ps).map pairP) | none => sortedF [.p (.lst (l.map pairP))] S) = _
  rw [pairsP_map]
end
end DL
namespace DL
noncomputable section
open PySem PySem.Spec PyProof.Rows L2

/-! ### a, b = x, y by way of the tuple: names that a comprehension reads, lists that change -/
def dParC (qs : List Pat) (fs : Sig → AH → Res (List DV)) : Sig → AH → Out := fun δ S => (fs δ S).out δ fun ds S => match Pat.sets qs ds δ with
  | some δ' => if qs.length ≤ 1000 then .nx δ' S else .bad
  | none => .bad
section
variable {X : Cx} {E : L2.St → XK} {tg : Expr} {es : List Expr} {k2 : Nat} {pos pt2 : Pos} {qs : List Pat} {fs : Sig → AH → Res (List DV)}
theorem ds_parC (ha : DA X E es fs) (hg : DG X tg (.tp qs)) (hs : swapsWithSole [tg] (.Tuple es k2 pt2) pos.line X.env = pure false := by rfl) (hw : swappedStores [tg] (.Tuple es k2 pt2) X.env = pure none := by rfl)
    (h1 : (assignEach [tg] X.env).map (·.2) = [assign tg X.env] := by rfl) : DS X E (.Assign [tg] (.Tuple es k2 pt2) pos) (dParC qs fs) := (ps_asg (pe_tupZ ha) hg hs hw h1).imp fun D σ H ⟨as, δ, S, sr, er, w⟩ =>
  ⟨as, δ, S, sr, er, (w.bind er).mono fun _ _ _ _ vs _ _ _ _ ⟨as1, S1, ds, _, x1, s1, r1, w1⟩ => by
    split at w1
    · rename_i δ' eq
      split at w1
      · rename_i z
        have ln : vs.length = qs.length := (Paired.length r1).trans (sets_len qs eq)
        have z2 : vs.length ≤ sizeLine := by rw [ln]; exact le1000 z
        exact ⟨z2, fun p o n d => .inl ⟨p, vs, rfl, .inl (.inr ⟨o, upd_same⟩), ln, tPats_ok (M := wd X) qs ((er.mono x1.w).mono (ext_new s1 n).w) (DVRs.mono (ext_new s1 n).w r1) eq fun σ' er' _ => w1 as1 _ σ' (ext_new s1 n) (s1.new n) er'⟩⟩
      · exact w1.elim
    · exact w1.elim⟩
end
@[simp] theorem ev_parC {qs : List Pat} {fs : Sig → AH → Res (List DV)} {δ : Sig} {S : AH} : dParC qs fs δ S = (fs δ S).out δ fun ds S => match Pat.sets qs ds δ with
  | some δ' => if qs.length ≤ 1000 then .nx δ' S else .bad
  | none => .bad := (rfl)
end
end DL
namespace DL
noncomputable section
open PySem PySem.Spec PyProof.Rows L2

/-! ### o[i], a = a pair -/
def dAsgT (j : Nat) (fe fo fi : Sig → AH → Res DV) : Sig → AH → Out := fun δ S => (fe δ S).out δ fun v S => match v with
  | .p (.tup [a, b]) => (fo δ S).out δ fun o S => (fi δ S).out δ fun i S => match setIx o i (.p a) S with
    | some S' => .nx (δ.set j (some (.p b))) S'
    | none => .bad
  | _ => .bad
/-! ### o[i], q[l] = a pair -/
def dAsgSS (fe fo fi fq fl : Sig → AH → Res DV) : Sig → AH → Out := fun δ S => (fe δ S).out δ fun v S => match v with
  | .p (.tup [a, b]) => (fo δ S).out δ fun o S => (fi δ S).out δ fun i S => match setIx o i (.p a) S with
    | some S' => (fq δ S').out δ fun q S => (fl δ S).out δ fun l S => match setIx q l (.p b) S with
      | some S' => .nx δ S'
      | none => .bad
    | none => .bad
  | _ => .bad
section
variable {X : Cx} {E : L2.St → XK} {o i q l e : Expr} {pos tpos upos npos ppos : Pos} {fe fo fi fq fl : Sig → AH → Res DV} {j k : Nat} {x : Str}
theorem ds_asgT (hc : X.calm = true) (hN : X.N.Nodup) (hj : X.N[j]? = some x) (hx : Loc X.env.scope x) (he : DE X E e fe) (ho : DE X E o fo) (hi : DE X E i fi)
    (hf : X.fn x = true ∨ X.env.scope.names.lookup x = some .local := by first | exact .inl rfl | exact .inr rfl | assumption)
    (hs : swapsWithSole [.Tuple [.Subscript o i tpos, .Name x npos] k ppos] e pos.line X.env = pure false := by rfl) (hw : swappedStores [.Tuple [.Subscript o i tpos, .Name x npos] k ppos] e X.env = pure none := by rfl)
    (h1 : (assignEach [.Tuple [.Subscript o i tpos, .Name x npos] k ppos] X.env).map (·.2) = [assign (.Tuple [.Subscript o i tpos, .Name x npos] k ppos) X.env] := by rfl)
    (ha : ∀ v, assign (.Subscript o i tpos) X.env v = (do
      let ov ← holding [v] (eval o X.env)
      let iv ← holding [v, ov] (eval i X.env)
      standAt tpos
      holding [v, ov, iv] (setItem ov iv v)
      release [v, ov, iv] []) := by intro _; rfl)
    (c1 : (assignEach [.Subscript o i tpos, .Name x npos] X.env).map (·.2) = assign (.Subscript o i tpos) X.env :: (assignEach [.Name x npos] X.env).map (·.2) := by rfl)
    (c2 : (assignEach [.Name x npos] X.env).map (·.2) = assign (.Name x npos) X.env :: (assignEach [] X.env).map (·.2) := by rfl)
    (hn : (assignEach [.Subscript o i tpos, .Name x npos] X.env).length = 2 := by rfl) (hst : (assignEach [.Subscript o i tpos, .Name x npos] X.env).findIdx? (·.1) = none := by rfl) :
    DS X E (.Assign [.Tuple [.Subscript o i tpos, .Name x npos] k ppos] e pos) (dAsgT j fe fo fi) :=
  (ps_asg he (pg_tup hc (pgs_cons (pg_sub ho hi ow_setIx ha) (pgs_cons (pg_name hN hj hx hf) pgs_nil c2) c1) hn hst) hs hw h1).imp fun D σ H ⟨as, δ, S, sr, er, w⟩ =>
  ⟨as, δ, S, sr, er, (w.bind er).mono fun _ _ _ _ _ _ _ _ _ ⟨as1, S1, d1, _, x1, s1, r1, w1⟩ => by
    split at w1
    · cases r1 with
      | tup h t =>
        obtain ⟨v, v2, rfl, r, r'⟩ := DVRs.two t.dvrs
        have er1 := er.mono x1.w
        refine ⟨_, _, rfl, h.sq, rfl, _, _, rfl, as1, _, S1, s1, er1, (w1.bind er1).mono fun _ _ _ _ _ _ _ _ _ ⟨as2, S2, d2, _, x2, s2, r2, w2⟩ =>
          ⟨as2, _, S2, s2, er1.mono x2.w, (w2.bind (er1.mono x2.w)).mono fun _ _ _ _ _ _ _ _ _ ⟨as3, S3, d3, _, x3, s3, r3, w3⟩ => ?_⟩⟩
        split at w3
        · rename_i S' eq
          exact ⟨as3, S3, d2, d3, _, s3, r2.mono x3.w, r3, (r.mono x2.w).mono x3.w, S', eq, fun as' H' x s => ⟨_, _, rfl, rfl, w3 as' H' _ x s ((((er1.mono x2.w).mono x3.w).mono x.w).set (((r'.mono x2.w).mono x3.w).mono x.w) j)⟩⟩
        · exact w3.elim
    · exact w1.elim⟩
theorem ds_asgSS (hc : X.calm = true) (he : DE X E e fe) (ho : DE X E o fo) (hi : DE X E i fi) (hq : DE X E q fq) (hl : DE X E l fl)
    (hs : swapsWithSole [.Tuple [.Subscript o i tpos, .Subscript q l upos] k ppos] e pos.line X.env = pure false := by rfl) (hw : swappedStores [.Tuple [.Subscript o i tpos, .Subscript q l upos] k ppos] e X.env = pure none := by rfl)
    (h1 : (assignEach [.Tuple [.Subscript o i tpos, .Subscript q l upos] k ppos] X.env).map (·.2) = [assign (.Tuple [.Subscript o i tpos, .Subscript q l upos] k ppos) X.env] := by rfl)
    (ha : ∀ v, assign (.Subscript o i tpos) X.env v = (do
      let ov ← holding [v] (eval o X.env)
      let iv ← holding [v, ov] (eval i X.env)
      standAt tpos
      holding [v, ov, iv] (setItem ov iv v)
      release [v, ov, iv] []) := by intro _; rfl)
    (ha2 : ∀ v, assign (.Subscript q l upos) X.env v = (do
      let ov ← holding [v] (eval q X.env)
      let iv ← holding [v, ov] (eval l X.env)
      standAt upos
      holding [v, ov, iv] (setItem ov iv v)
      release [v, ov, iv] []) := by intro _; rfl)
    (c1 : (assignEach [.Subscript o i tpos, .Subscript q l upos] X.env).map (·.2) = assign (.Subscript o i tpos) X.env :: (assignEach [.Subscript q l upos] X.env).map (·.2) := by rfl)
    (c2 : (assignEach [.Subscript q l upos] X.env).map (·.2) = assign (.Subscript q l upos) X.env :: (assignEach [] X.env).map (·.2) := by rfl)
    (hn : (assignEach [.Subscript o i tpos, .Subscript q l upos] X.env).length = 2 := by rfl) (hst : (assignEach [.Subscript o i tpos, .Subscript q l upos] X.env).findIdx? (·.1) = none := by rfl) :
    DS X E (.Assign [.Tuple [.Subscript o i tpos, .Subscript q l upos] k ppos] e pos) (dAsgSS fe fo fi fq fl) :=
  (ps_asg he (pg_tup hc (pgs_cons (pg_sub ho hi ow_setIx ha) (pgs_cons (pg_sub hq hl ow_setIx ha2) pgs_nil c2) c1) hn hst) hs hw h1).imp fun D σ H ⟨as, δ, S, sr, er, w⟩ =>
  ⟨as, δ, S, sr, er, (w.bind er).mono fun _ _ _ _ _ _ _ _ _ ⟨as1, S1, d1, _, x1, s1, r1, w1⟩ => by
    split at w1
    · cases r1 with
      | tup h t =>
        obtain ⟨v, v2, rfl, r, r'⟩ := DVRs.two t.dvrs
        have er1 := er.mono x1.w
        refine ⟨_, _, rfl, h.sq, rfl, _, _, rfl, as1, _, S1, s1, er1, (w1.bind er1).mono fun _ _ _ _ _ _ _ _ _ ⟨as2, S2, d2, _, x2, s2, r2, w2⟩ =>
          ⟨as2, _, S2, s2, er1.mono x2.w, (w2.bind (er1.mono x2.w)).mono fun _ _ _ _ _ _ _ _ _ ⟨as3, S3, d3, _, x3, s3, r3, w3⟩ => ?_⟩⟩
        split at w3
        · rename_i S' eq
          refine ⟨as3, S3, d2, d3, _, s3, r2.mono x3.w, r3, (r.mono x2.w).mono x3.w, S', eq, fun as' H' x s => ⟨_, _, rfl, ?_⟩⟩
          have er3 := ((er1.mono x2.w).mono x3.w).mono x.w
          have rv := ((r'.mono x2.w).mono x3.w).mono x.w
          have w4 := WS.later x w3
          refine ⟨as', _, S', s, er3, (w4.bind er3).mono fun _ _ _ _ _ _ _ _ _ ⟨as5, S5, d5, _, x5, s5, r5, w5⟩ =>
            ⟨as5, _, S5, s5, er3.mono x5.w, (w5.bind (er3.mono x5.w)).mono fun _ _ _ _ _ _ _ _ _ ⟨as6, S6, d6, _, x6, s6, r6, w6⟩ => ?_⟩⟩
          split at w6
          · rename_i S'' eq2
            exact ⟨as6, S6, d5, d6, _, s6, r5.mono x6.w, r6, (rv.mono x5.w).mono x6.w, S'', eq2, fun as'' H'' y s' => ⟨rfl, w6 as'' H'' _ y s' (((er3.mono x5.w).mono x6.w).mono y.w)⟩⟩
          · exact w6.elim
        · exact w3.elim
    · exact w1.elim⟩
end
end
end DL
namespace DL
open PySem PySem.Spec PyProof.Rows L2
def topS (i : Nat) : Stmt := PySem.Challenge.pw_carrierroads_k63_angles_of_rings.main.body.getD i (.Pass ⟨0, 0, 0, 0⟩)
abbrev s_is_integer : Stmt := topS 4
theorem sc_is_integer : FnScope ["value"] ["value"] (defScope s_is_integer) := ⟨rfl, rfl, rfl, by decide +kernel, rfl, by decide +kernel, by decide +kernel⟩
noncomputable def b_is_integer_ : Sig → AH → Out := (dRet (dAndV (dIsi "int" (dVar 0)) (dNotV (dIsi "bool" (dVar 0)))))
noncomputable def d_is_integer : List DV → AH → Res DV := dDef 1 1 false b_is_integer_
abbrev s_is_partition : Stmt := topS 8
theorem sc_is_partition : FnScope ["value", "most", "total", "k"] ["value", "most"] (defScope s_is_partition) := ⟨rfl, rfl, rfl, by decide +kernel, rfl, by decide +kernel, by decide +kernel⟩
noncomputable def L0_is_partition : Sig → AH → Out := (dSeq (dIf (dOr (dNot (dTru (dCall d_is_integer (dCons (dBin ixO (dVar 0) (dVar 3)) dNil)))) (dOr (blOf (dBin ltO (dBin ixO (dVar 0) (dVar 3)) (dC (.int 1)))) (dAnd (blOf (dBin gtO (dVar 3) (dC (.int 0)))) (blOf (dBin gtO (dBin ixO (dVar 0) (dVar 3)) (dBin ixO (dVar 0) (dBin subO (dVar 3) (dC (.int 1))))))))) (dRet (dC (.bl false))) dPass)
    (dSet 2 (dBin addO (dVar 2) (dBin ixO (dVar 0) (dVar 3)))))
noncomputable def b_is_partition_ : Sig → AH → Out := (dSeq (dIf (dNot (dTru (dIsi "tuple" (dVar 0)))) (dRet (dC (.bl false))) dPass)
    (dSeq (dSet 2 (dC (.int 0)))
    (dSeq (dFor (dRng1 (dCons (dApp lenO (dCons (dVar 0) dNil)) dNil)) (.nm 3) L0_is_partition)
    (dRet (dBin leO (dVar 2) (dVar 1))))))
noncomputable def d_is_partition : List DV → AH → Res DV := dDef 4 2 false b_is_partition_
abbrev s_is_shape : Stmt := topS 23
theorem sc_is_shape : FnScope ["value", "size"] ["value", "size"] (defScope s_is_shape) := ⟨rfl, rfl, rfl, by decide +kernel, rfl, by decide +kernel, by decide +kernel⟩
noncomputable def b_is_shape_ : Sig → AH → Out := (dSeq (dIf (dOr (dNot (dTru (dCall d_is_integer (dCons (dVar 1) dNil)))) (dOr (blOf (dBin ltO (dVar 1) (dC (.int 1)))) (dOr (blOf (dBin gtO (dVar 1) (dC (.int 40)))) (dNot (dTru (dCall d_is_partition (dCons (dVar 0) (dCons (dC (.int 40)) dNil)))))))) (dRet (dC (.bl false))) dPass)
    (dRet (dBin ltO (dBin mulO1 (dC (.int 2)) (dApp sumO (dCons (dVar 0) dNil))) (dVar 1))))
noncomputable def d_is_shape : List DV → AH → Res DV := dDef 2 2 false b_is_shape_
abbrev s_boxes_to : Stmt := topS 6
theorem sc_boxes_to : FnScope ["lengths", "k", "length"] ["lengths", "k"] (defScope s_boxes_to) := ⟨rfl, rfl, rfl, by decide +kernel, rfl, by decide +kernel, by decide +kernel⟩
noncomputable def b_boxes_to_ : Sig → AH → Out := (dRet (dApp sumO (dCons (dVal (dLc (dSeqI (dVar 0)) (.nm 2) dYes (dApp minO2 (dCons (dVar 1) (dCons (dVar 2) dNil))) [2])) dNil)))
noncomputable def d_boxes_to : List DV → AH → Res DV := dDef 3 2 false b_boxes_to_
abbrev s_check_shape : Stmt := topS 24
theorem sc_check_shape : FnScope ["value", "size"] ["value", "size"] (defScope s_check_shape) := ⟨rfl, rfl, rfl, by decide +kernel, rfl, by decide +kernel, by decide +kernel⟩
noncomputable def b_check_shape_ : Sig → AH → Out := (dIf (dNot (dTru (dCall d_is_shape (dCons (dVar 0) (dCons (dVar 1) dNil))))) (dRaise "Malformed") dPass)
noncomputable def d_check_shape : List DV → AH → Res DV := dDef 2 2 false b_check_shape_
abbrev s_vacancy_of_ring : Stmt := topS 25
theorem sc_vacancy_of_ring : FnScope ["shape", "size", "k"] ["shape", "size", "k"] (defScope s_vacancy_of_ring) := ⟨rfl, rfl, rfl, by decide +kernel, rfl, by decide +kernel, by decide +kernel⟩
noncomputable def b_vacancy_of_ring_ : Sig → AH → Out := (dSeq (dDrop (dCall d_check_shape (dCons (dVar 0) (dCons (dVar 1) dNil))))
    (dRet (dBin subO (dVar 1) (dBin mulO1 (dC (.int 2)) (dCall d_boxes_to (dCons (dVar 0) (dCons (dVar 2) dNil)))))))
noncomputable def d_vacancy_of_ring : List DV → AH → Res DV := dDef 3 3 false b_vacancy_of_ring_
abbrev s_is_round : Stmt := topS 26
theorem sc_is_round : FnScope ["value", "a", "item", "i"] ["value"] (defScope s_is_round) := ⟨rfl, rfl, rfl, by decide +kernel, rfl, by decide +kernel, by decide +kernel⟩
noncomputable def b_is_round_ : Sig → AH → Out := (dSeq (dIf (dOr (dNot (dTru (dIsi "tuple" (dVar 0)))) (dOr (blOf (dBin neO (dApp lenO (dCons (dVar 0) dNil)) (dC (.int 2)))) (dOr (dNot (dTru (dCall d_is_integer (dCons (dBin ixO (dVar 0) (dC (.int 0))) dNil)))) (dNot (dTru (dIsi "tuple" (dBin ixO (dVar 0) (dC (.int 1))))))))) (dRet (dC (.bl false))) dPass)
    (dSeq (dSet 1 (dBin ixO (dVar 0) (dC (.int 1))))
    (dSeq (dIf (dOr (blOf (dBin eqO (dApp lenO (dCons (dVar 1) dNil)) (dC (.int 0)))) (dNot (dTru (dApp allO (dCons (dVal (dLc (dSeqI (dVar 1)) (.nm 2) dYes (dCall d_is_integer (dCons (dVar 2) dNil)) [2])) dNil))))) (dRet (dC (.bl false))) dPass)
    (dRet (dApp allO (dCons (dVal (dLc (dRng1 (dCons (dBin subO (dApp lenO (dCons (dVar 1) dNil)) (dC (.int 1))) dNil)) (.nm 3) dYes (dBin leO (dBin ixO (dVar 1) (dVar 3)) (dBin ixO (dVar 1) (dBin addO (dVar 3) (dC (.int 1))))) [3])) dNil))))))
noncomputable def d_is_round : List DV → AH → Res DV := dDef 4 1 false b_is_round_
abbrev s_shape_of_rounds : Stmt := topS 27
theorem sc_shape_of_rounds : FnScope ["rounds", "found", "k", "a"] ["rounds"] (defScope s_shape_of_rounds) := ⟨rfl, rfl, rfl, by decide +kernel, rfl, by decide +kernel, by decide +kernel⟩
noncomputable def L0_shape_of_rounds : Sig → AH → Out := (dSet 1 (dBin addO (dBin mulO1 (dTup (dCons (dVar 2) dNil)) (dApp lenO (dCons (dVar 3) dNil))) (dVar 1)))
noncomputable def b_shape_of_rounds_ : Sig → AH → Out := (dSeq (dSet 1 (dTup dNil))
    (dSeq (dFor (dSeqI (dVar 0)) (.tp [(.nm 2), (.nm 3)]) L0_shape_of_rounds)
    (dRet (dVar 1))))
noncomputable def d_shape_of_rounds : List DV → AH → Res DV := dDef 4 1 false b_shape_of_rounds_
abbrev s_are_rounds : Stmt := topS 28
theorem sc_are_rounds : FnScope ["value", "size", "pair", "i", "_", "a", "shape", "k"] ["value", "size"] (defScope s_are_rounds) := ⟨rfl, rfl, rfl, by decide +kernel, rfl, by decide +kernel, by decide +kernel⟩
noncomputable def L0_are_rounds : Sig → AH → Out := (dIf (blOf (dBin geO (dBin ixO (dBin ixO (dVar 0) (dVar 3)) (dC (.int 0))) (dBin ixO (dBin ixO (dVar 0) (dBin addO (dVar 3) (dC (.int 1)))) (dC (.int 0))))) (dRet (dC (.bl false))) dPass)
noncomputable def b_are_rounds_ : Sig → AH → Out := (dSeq (dIf (dOr (dNot (dTru (dIsi "tuple" (dVar 0)))) (dNot (dTru (dApp allO (dCons (dVal (dLc (dSeqI (dVar 0)) (.nm 2) dYes (dCall d_is_round (dCons (dVar 2) dNil)) [2])) dNil))))) (dRet (dC (.bl false))) dPass)
    (dSeq (dFor (dRng1 (dCons (dBin subO (dApp lenO (dCons (dVar 0) dNil)) (dC (.int 1))) dNil)) (.nm 3) L0_are_rounds)
    (dSeq (dIf (blOf (dBin gtO (dApp sumO (dCons (dVal (dLc (dSeqI (dVar 0)) (.tp [(.nm 4), (.nm 5)]) dYes (dApp lenO (dCons (dVar 5) dNil)) [4, 5])) dNil)) (dC (.int 40)))) (dRet (dC (.bl false))) dPass)
    (dSeq (dSet 6 (dCall d_shape_of_rounds (dCons (dVar 0) dNil)))
    (dSeq (dIf (dNot (dTru (dCall d_is_shape (dCons (dVar 6) (dCons (dVar 1) dNil))))) (dRet (dC (.bl false))) dPass)
    (dRet (dApp allO (dCons (dVal (dLc (dSeqI (dVar 0)) (.tp [(.nm 7), (.nm 5)]) dYes (dBin leO (dBin ixO (dVar 5) (dUn negO (dC (.int 1)))) (dBin addO (dBin ixO (dVar 5) (dC (.int 0))) (dCall d_vacancy_of_ring (dCons (dVar 6) (dCons (dVar 1) (dCons (dVar 7) dNil)))))) [7, 5])) dNil))))))))
noncomputable def d_are_rounds : List DV → AH → Res DV := dDef 8 2 false b_are_rounds_
abbrev s_is_ring : Stmt := topS 16
theorem sc_is_ring : FnScope ["value", "item"] ["value"] (defScope s_is_ring) := ⟨rfl, rfl, rfl, by decide +kernel, rfl, by decide +kernel, by decide +kernel⟩
noncomputable def b_is_ring_ : Sig → AH → Out := (dSeq (dIf (dOr (dNot (dTru (dIsi "tuple" (dVar 0)))) (dOr (blOf (dBin ltO (dApp lenO (dCons (dVar 0) dNil)) (dC (.int 1)))) (blOf (dBin gtO (dApp lenO (dCons (dVar 0) dNil)) (dC (.int 40)))))) (dRet (dC (.bl false))) dPass)
    (dSeq (dIf (dNot (dTru (dApp allO (dCons (dVal (dLc (dSeqI (dVar 0)) (.nm 1) dYes (dAndV (dCall d_is_integer (dCons (dVar 1) dNil)) (dChain leO leO (dC (.int 0)) (dVar 1) (dC (.int 1)))) [1])) dNil)))) (dRet (dC (.bl false))) dPass)
    (dRet (dBin ltO (dBin mulO1 (dC (.int 2)) (dApp sumO (dCons (dVar 0) dNil))) (dApp lenO (dCons (dVar 0) dNil))))))
noncomputable def d_is_ring : List DV → AH → Res DV := dDef 2 1 false b_is_ring_
abbrev s_check_ring : Stmt := topS 17
theorem sc_check_ring : FnScope ["w"] ["w"] (defScope s_check_ring) := ⟨rfl, rfl, rfl, by decide +kernel, rfl, by decide +kernel, by decide +kernel⟩
noncomputable def b_check_ring_ : Sig → AH → Out := (dIf (dNot (dTru (dCall d_is_ring (dCons (dVar 0) dNil)))) (dRaise "Malformed") dPass)
noncomputable def d_check_ring : List DV → AH → Res DV := dDef 1 1 false b_check_ring_
abbrev s_turned_ring : Stmt := topS 18
theorem sc_turned_ring : FnScope ["w", "d", "at"] ["w", "d"] (defScope s_turned_ring) := ⟨rfl, rfl, rfl, by decide +kernel, rfl, by decide +kernel, by decide +kernel⟩
noncomputable def b_turned_ring_ : Sig → AH → Out := (dSeq (dDrop (dCall d_check_ring (dCons (dVar 0) dNil)))
    (dSeq (dSet 2 (dBin modO (dVar 1) (dApp lenO (dCons (dVar 0) dNil))))
    (dRet (dBin addO (dSl (dVar 0) (dPart (dVar 2)) dNoPart) (dSl (dVar 0) dNoPart (dPart (dVar 2)))))))
noncomputable def d_turned_ring : List DV → AH → Res DV := dDef 3 2 false b_turned_ring_
abbrev s_is_high : Stmt := topS 19
theorem sc_is_high : FnScope ["w", "room", "item"] ["w"] (defScope s_is_high) := ⟨rfl, rfl, rfl, by decide +kernel, rfl, by decide +kernel, by decide +kernel⟩
noncomputable def L0_is_high : Sig → AH → Out := (dSeq (dSet 1 (dBin subO (dBin addO (dVar 1) (dC (.int 1))) (dBin mulO1 (dC (.int 2)) (dVar 2))))
    (dIf (blOf (dBin ltO (dVar 1) (dC (.int 0)))) (dRet (dC (.bl false))) dPass))
noncomputable def b_is_high_ : Sig → AH → Out := (dSeq (dDrop (dCall d_check_ring (dCons (dVar 0) dNil)))
    (dSeq (dSet 1 (dC (.int 0)))
    (dSeq (dFor (dSeqI (dVar 0)) (.nm 2) L0_is_high)
    (dRet (dC (.bl true))))))
noncomputable def d_is_high : List DV → AH → Res DV := dDef 3 1 false b_is_high_
abbrev s_least_turn : Stmt := topS 20
theorem sc_least_turn : FnScope ["w", "d"] ["w"] (defScope s_least_turn) := ⟨rfl, rfl, rfl, by decide +kernel, rfl, by decide +kernel, by decide +kernel⟩
noncomputable def L0_least_turn : Sig → AH → Out := (dSet 1 (dBin addO (dVar 1) (dC (.int 1))))
noncomputable def b_least_turn_ : Sig → AH → Out := (dSeq (dSet 1 (dC (.int 0)))
    (dSeq (dWhile (dNot (dTru (dCall d_is_high (dCons (dCall d_turned_ring (dCons (dVar 0) (dCons (dVar 1) dNil))) dNil)))) L0_least_turn)
    (dRet (dVar 1))))
noncomputable def d_least_turn : List DV → AH → Res DV := dDef 2 1 false b_least_turn_
abbrev s_vacancy : Stmt := topS 7
theorem sc_vacancy : FnScope ["shapes", "a", "k", "x", "ahead", "behind"] ["shapes", "a", "k", "x"] (defScope s_vacancy) := ⟨rfl, rfl, rfl, by decide +kernel, rfl, by decide +kernel, by decide +kernel⟩
noncomputable def b_vacancy_ : Sig → AH → Out := (dSeq (dSet 4 (dIte (blOf (dBin eqO (dVar 1) (dC (.int 1)))) (dVar 3) (dCall d_boxes_to (dCons (dBin ixO (dVar 0) (dBin subO (dVar 1) (dC (.int 2)))) (dCons (dVar 2) dNil)))))
    (dSeq (dSet 5 (dIte (blOf (dBin eqO (dVar 1) (dC (.int 3)))) (dC (.int 0)) (dCall d_boxes_to (dCons (dBin ixO (dVar 0) (dVar 1)) (dCons (dVar 2) dNil)))))
    (dRet (dBin addO (dBin subO (dVar 4) (dBin mulO1 (dC (.int 2)) (dCall d_boxes_to (dCons (dBin ixO (dVar 0) (dBin subO (dVar 1) (dC (.int 1)))) (dCons (dVar 2) dNil))))) (dVar 5)))))
noncomputable def d_vacancy : List DV → AH → Res DV := dDef 6 4 false b_vacancy_
abbrev s_lengths_in : Stmt := topS 10
theorem sc_lengths_in : FnScope ["lists", "length", "_", "strings"] ["lists"] (defScope s_lengths_in) := ⟨rfl, rfl, rfl, by decide +kernel, rfl, by decide +kernel, by decide +kernel⟩
noncomputable def b_lengths_in_ : Sig → AH → Out := (dRet (dApp tupleO (dCons (dVal (dLc (dSeqI (dVar 0)) (.nm 3) dYes (dApp tupleO (dCons (dVal (dLc (dSeqI (dVar 3)) (.tp [(.nm 1), (.nm 2)]) dYes (dVar 1) [1, 2])) dNil)) [3])) dNil)))
noncomputable def d_lengths_in : List DV → AH → Res DV := dDef 4 1 false b_lengths_in_
abbrev s_chosen_for : Stmt := topS 11
theorem sc_chosen_for : FnScope ["lists", "colour", "x", "shapes", "found", "most", "a", "strings", "best", "k", "length", "rigging"] ["lists", "colour", "x"] (defScope s_chosen_for) := ⟨rfl, rfl, rfl, by decide +kernel, rfl, by decide +kernel, by decide +kernel⟩
noncomputable def L0_chosen_for : Sig → AH → Out := (dSeq (dAsg (.tp [(.nm 10), (.nm 11)]) (dBin ixO (dVar 7) (dVar 9)))
    (dIf (dAnd (dOr (blOf (dBin isO (dVar 5) (dC .non))) (blOf (dBin leO (dVar 10) (dVar 5)))) (blOf (dBin eqO (dVar 11) (dCall d_vacancy (dCons (dVar 3) (dCons (dVar 6) (dCons (dVar 10) (dCons (dVar 2) dNil)))))))) (dIf (dOr (blOf (dBin ltO (dVar 8) (dC (.int 0)))) (blOf (dBin gtO (dVar 10) (dBin ixO (dBin ixO (dVar 7) (dVar 8)) (dC (.int 0)))))) (dSet 8 (dVar 9)) dPass) dPass))
noncomputable def L1_chosen_for : Sig → AH → Out := (dSeq (dSet 7 (dBin ixO (dVar 0) (dBin subO (dVar 6) (dC (.int 1)))))
    (dSeq (dSet 8 (dUn negO (dC (.int 1))))
    (dSeq (dFor (dRng1 (dCons (dApp lenO (dCons (dVar 7) dNil)) dNil)) (.nm 9) L0_chosen_for)
    (dSeq (dSet 5 (dIte (blOf (dBin ltO (dVar 8) (dC (.int 0)))) (dC (.int 0)) (dBin ixO (dBin ixO (dVar 7) (dVar 8)) (dC (.int 0)))))
    (dDrop (dMeth appendM (dVar 4) (dCons (dVar 8) dNil)))))))
noncomputable def b_chosen_for_ : Sig → AH → Out := (dSeq (dSet 3 (dCall d_lengths_in (dCons (dVar 0) dNil)))
    (dSeq (dSet 4 (dCell (dLst dNil)))
    (dSeq (dSet 5 (dC .non))
    (dSeq (dFor (dRng3 (dCons (dVar 1) (dCons (dC (.int 0)) (dCons (dUn negO (dC (.int 1))) dNil)))) (.nm 6) L1_chosen_for)
    (dRet (dVar 4))))))
noncomputable def d_chosen_for : List DV → AH → Res DV := dDef 12 3 false b_chosen_for_
abbrev s_grown : Stmt := topS 12
theorem sc_grown : FnScope ["lists", "chosen", "colour", "x", "found", "strings", "places", "step", "shapes", "length"] ["lists", "chosen", "colour", "x"] (defScope s_grown) := ⟨rfl, rfl, rfl, by decide +kernel, rfl, by decide +kernel, by decide +kernel⟩
noncomputable def L0_grown : Sig → AH → Out := (dSeq (dSet 5 (dBin ixO (dVar 4) (dBin subO (dBin subO (dVar 2) (dVar 7)) (dC (.int 1)))))
    (dSeq (dIf (blOf (dBin ltO (dBin ixO (dVar 1) (dVar 7)) (dC (.int 0)))) (dSeq (dDrop (dMeth appendM (dVar 5) (dCons (dTup (dCons (dC (.int 0)) (dCons (dC (.int 0)) dNil))) dNil)))
    (dDrop (dMeth appendM (dVar 6) (dCons (dBin subO (dApp lenO (dCons (dVar 5) dNil)) (dC (.int 1))) dNil)))) (dDrop (dMeth appendM (dVar 6) (dCons (dBin ixO (dVar 1) (dVar 7)) dNil))))
    (dSub (dTup (dCons (dBin addO (dBin ixO (dBin ixO (dVar 5) (dBin ixO (dVar 6) (dVar 7))) (dC (.int 0))) (dC (.int 1))) (dCons (dC (.int 0)) dNil))) (dVar 5) (dBin ixO (dVar 6) (dVar 7)))))
noncomputable def L1_grown : Sig → AH → Out := (dSeq (dSet 5 (dBin ixO (dVar 4) (dBin subO (dBin subO (dVar 2) (dVar 7)) (dC (.int 1)))))
    (dSeq (dSet 9 (dBin ixO (dBin ixO (dVar 5) (dBin ixO (dVar 6) (dVar 7))) (dC (.int 0))))
    (dSub (dTup (dCons (dVar 9) (dCons (dCall d_vacancy (dCons (dVar 8) (dCons (dBin subO (dVar 2) (dVar 7)) (dCons (dVar 9) (dCons (dBin addO (dVar 3) (dC (.int 1))) dNil))))) dNil))) (dVar 5) (dBin ixO (dVar 6) (dVar 7)))))
noncomputable def b_grown_ : Sig → AH → Out := (dSeq (dSetN 4 (dLcK (dSeqI (dVar 0)) (.nm 5) dYes (dCell (dAppF listF (dCons (dVar 5) dNil))) [5]))
    (dSeq (dSet 6 (dCell (dLst dNil)))
    (dSeq (dFor (dRng1 (dCons (dVar 2) dNil)) (.nm 7) L0_grown)
    (dSeq (dSet 8 (dCall d_lengths_in (dCons (dVar 4) dNil)))
    (dSeq (dFor (dRng1 (dCons (dVar 2) dNil)) (.nm 7) L1_grown)
    (dRet (dVar 4)))))))
noncomputable def d_grown : List DV → AH → Res DV := dDef 10 4 false b_grown_
abbrev s_lists_of : Stmt := topS 13
theorem sc_lists_of : FnScope ["balls", "lists", "trace", "x", "colour", "chosen", "lengths", "step", "strings"] ["balls"] (defScope s_lists_of) := ⟨rfl, rfl, rfl, by decide +kernel, rfl, by decide +kernel, by decide +kernel⟩
noncomputable def L0_lists_of : Sig → AH → Out := (dSeq (dSet 8 (dBin ixO (dVar 1) (dBin subO (dBin subO (dVar 4) (dVar 7)) (dC (.int 1)))))
    (dDrop (dMeth appendM (dVar 6) (dCons (dIte (blOf (dBin ltO (dBin ixO (dVar 5) (dVar 7)) (dC (.int 0)))) (dC (.int 0)) (dBin ixO (dBin ixO (dVar 8) (dBin ixO (dVar 5) (dVar 7))) (dC (.int 0)))) dNil))))
noncomputable def L1_lists_of : Sig → AH → Out := (dSeq (dSet 5 (dCall d_chosen_for (dCons (dVar 1) (dCons (dVar 4) (dCons (dVar 3) dNil)))))
    (dSeq (dSet 6 (dCell (dLst dNil)))
    (dSeq (dFor (dRng1 (dCons (dVar 4) dNil)) (.nm 7) L0_lists_of)
    (dSeq (dDrop (dMeth appendM (dVar 2) (dCons (dApp tupleO (dCons (dVar 6) dNil)) dNil)))
    (dSet 1 (dCall d_grown (dCons (dVar 1) (dCons (dVar 5) (dCons (dVar 4) (dCons (dVar 3) dNil))))))))))
noncomputable def b_lists_of_ : Sig → AH → Out := (dSeq (dSet 1 (dVal (dLst (dCons (dVal (dLst dNil)) (dCons (dVal (dLst dNil)) (dCons (dVal (dLst dNil)) dNil))))))
    (dSeq (dSet 2 (dCell (dLst dNil)))
    (dSeq (dFor (dSeqI (dVar 0)) (.tp [(.nm 3), (.nm 4)]) L1_lists_of)
    (dRet (dTup (dCons (dApp tupleO (dCons (dVal (dLc (dSeqI (dVar 1)) (.nm 8) dYes (dApp tupleO (dCons (dVal (dAppF sortedF2 (dCons (dVar 8) dNil))) dNil)) [8])) dNil)) (dCons (dApp tupleO (dCons (dVar 2) dNil)) dNil)))))))
noncomputable def d_lists_of : List DV → AH → Res DV := dDef 9 1 false b_lists_of_
abbrev s_high_strings : Stmt := topS 21
theorem sc_high_strings : FnScope ["w", "d", "high", "x"] ["w", "d"] (defScope s_high_strings) := ⟨rfl, rfl, rfl, by decide +kernel, rfl, by decide +kernel, by decide +kernel⟩
noncomputable def b_high_strings_ : Sig → AH → Out := (dSeq (dSet 2 (dCall d_turned_ring (dCons (dVar 0) (dCons (dVar 1) dNil))))
    (dRet (dBin ixO (dBin ixO (dCall d_lists_of (dCons (dVal (dLc (dRng1 (dCons (dApp lenO (dCons (dVar 2) dNil)) dNil)) (.nm 3) (blOf (dBin eqO (dBin ixO (dVar 2) (dVar 3)) (dC (.int 1)))) (dTup (dCons (dVar 3) (dCons (dC (.int 1)) dNil))) [3])) dNil)) (dC (.int 0))) (dC (.int 0)))))
noncomputable def d_high_strings : List DV → AH → Res DV := dDef 4 2 false b_high_strings_
abbrev s_angles : Stmt := topS 29
theorem sc_angles : FnScope ["w", "d", "strings", "found", "k", "length", "_", "rigging"] ["w"] (defScope s_angles) := ⟨rfl, rfl, rfl, by decide +kernel, rfl, by decide +kernel, by decide +kernel⟩
noncomputable def L0_angles : Sig → AH → Out := (dDrop (dMeth appendM (dVar 3) (dCons (dTup (dCons (dVar 4) (dCons (dApp tupleO (dCons (dVal (dLc (dSeqI (dVar 2)) (.tp [(.nm 5), (.nm 7)]) (blOf (dBin eqO (dVar 5) (dVar 4))) (dBin addO (dVar 7) (dVar 1)) [5, 7])) dNil)) dNil))) dNil)))
noncomputable def b_angles_ : Sig → AH → Out := (dSeq (dDrop (dCall d_check_ring (dCons (dVar 0) dNil)))
    (dSeq (dSet 1 (dCall d_least_turn (dCons (dVar 0) dNil)))
    (dSeq (dSet 2 (dCall d_high_strings (dCons (dVar 0) (dCons (dVar 1) dNil))))
    (dSeq (dSet 3 (dCell (dLst dNil)))
    (dSeq (dFor (dSeqI (dVal (dAppF ssetU (dCons (dVal (dLc (dSeqI (dVar 2)) (.tp [(.nm 5), (.nm 6)]) dYes (dVar 5) [5, 6])) dNil)))) (.nm 4) L0_angles)
    (dRet (dApp tupleO (dCons (dVar 3) dNil))))))))
noncomputable def d_angles : List DV → AH → Res DV := dDef 8 1 false b_angles_
abbrev s_law_state : Stmt := topS 31
theorem sc_law_state : FnScope ["script", "seed", "total", "cell"] ["script"] (defScope s_law_state) := ⟨rfl, rfl, rfl, by decide +kernel, rfl, by decide +kernel, by decide +kernel⟩
noncomputable def L0_law_state : Sig → AH → Out := (dSeq (dSet 1 (dBin addO (dBin mulO1 (dVar 1) (dC (.int 1000003))) (dApp absO (dCons (dVar 3) dNil))))
    (dSet 2 (dBin modO (dApp intO (dCons (dBin addO (dBin mulO1 (dVar 2) (dC (.int 48271))) (dVar 3)) dNil)) (dC (.int 2147483647)))))
noncomputable def b_law_state_ : Sig → AH → Out := (dSeq (dSet 1 (dC (.int 0)))
    (dSeq (dSet 2 (dC (.int 1)))
    (dSeq (dFor (dSeqI (dSl (dVar 0) dNoPart (dPart (dC (.int 63))))) (.nm 3) L0_law_state)
    (dRet (dCell (dLst (dCons (dVar 1) (dCons (dVar 2) dNil))))))))
noncomputable def d_law_state : List DV → AH → Res DV := dDef 4 1 true b_law_state_
abbrev s_law_take : Stmt := topS 32
theorem sc_law_take : FnScope ["state", "m", "value"] ["state", "m"] (defScope s_law_take) := ⟨rfl, rfl, rfl, by decide +kernel, rfl, by decide +kernel, by decide +kernel⟩
noncomputable def b_law_take_ : Sig → AH → Out := (dSeq (dIf (blOf (dBin gtO (dBin ixO (dVar 0) (dC (.int 0))) (dC (.int 0)))) (dSeq (dSet 2 (dBin modO (dApp intO (dCons (dBin ixO (dVar 0) (dC (.int 0))) dNil)) (dVar 1)))
    (dSeq (dSub (dBin divO (dBin ixO (dVar 0) (dC (.int 0))) (dVar 1)) (dVar 0) (dC (.int 0)))
    (dRet (dVar 2)))) dPass)
    (dSeq (dSub (dBin modO (dApp intO (dCons (dBin addO (dBin mulO1 (dBin ixO (dVar 0) (dC (.int 1))) (dC (.int 48271))) (dC (.int 11))) dNil)) (dC (.int 2147483647))) (dVar 0) (dC (.int 1)))
    (dRet (dBin modO (dApp intO (dCons (dBin divO (dBin ixO (dVar 0) (dC (.int 1))) (dC (.int 7))) dNil)) (dVar 1)))))
noncomputable def d_law_take : List DV → AH → Res DV := dDef 3 2 false b_law_take_
abbrev s_law_plain : Stmt := topS 33
theorem sc_law_plain : FnScope ["value", "item"] ["value"] (defScope s_law_plain) := ⟨rfl, rfl, rfl, by decide +kernel, rfl, by decide +kernel, by decide +kernel⟩
noncomputable def d_law_plain : Nat → List DV → AH → Res DV
  | 0 => fun _ _ => .bad
  | n + 1 => dDef 2 1 false ((dSeq (dIf (dTru (dIsi "tuple" (dVar 0))) (dRet (dApp tupleO (dCons (dVal (dLc (dSeqI (dVar 0)) (.nm 1) dYes (dCall (d_law_plain n) (dCons (dVar 1) dNil)) [1])) dNil))) dPass)
    (dSeq (dIf (dOr (blOf (dBin isO (dVar 0) (dC .non))) (dOr (dTru (dIsi "str" (dVar 0))) (dAnd (dTru (dIsi "int" (dVar 0))) (dNot (dTru (dIsi "bool" (dVar 0))))))) (dRet (dVar 0)) dPass)
    (dRet (dC (.str "odd"))))))
abbrev s_law_ring : Stmt := topS 34
theorem sc_law_ring : FnScope ["state", "most", "size", "letters", "k", "last", "turn", "free", "at", "behind"] ["state", "most"] (defScope s_law_ring) := ⟨rfl, rfl, rfl, by decide +kernel, rfl, by decide +kernel, by decide +kernel⟩
noncomputable def L0_law_ring : Sig → AH → Out := (dSeq (dSetF 7 (dLc (dRng1 (dCons (dVar 2) dNil)) (.nm 4) (blOf (dBin eqO (dBin ixO (dVar 3) (dVar 4)) (dC (.int 0)))) (dVar 4) [4]))
    (dSeq (dSet 8 (dBin ixO (dVar 7) (dCall d_law_take (dCons (dVar 0) (dCons (dApp lenO (dCons (dVar 7) dNil)) dNil)))))
    (dSeq (dSetF 9 (dLc (dRng1 (dCons (dVar 2) dNil)) (.nm 4) (blOf (dBin eqO (dBin ixO (dVar 3) (dBin modO (dApp intO (dCons (dBin addO (dBin addO (dVar 5) (dC (.int 1))) (dVar 4)) dNil)) (dVar 2))) (dC (.int 0)))) (dBin modO (dApp intO (dCons (dBin addO (dBin addO (dVar 5) (dC (.int 1))) (dVar 4)) dNil)) (dVar 2)) [4]))
    (dSeq (dIf (dAnd (blOf (dBin geO (dVar 5) (dC (.int 0)))) (blOf (dBin ltO (dCall d_law_take (dCons (dVar 0) (dCons (dC (.int 5)) dNil))) (dC (.int 3))))) (dSet 8 (dBin ixO (dVar 9) (dC (.int 0)))) dPass)
    (dSeq (dSub (dC (.int 1)) (dVar 3) (dVar 8))
    (dSet 5 (dVar 8)))))))
noncomputable def b_law_ring_ : Sig → AH → Out := (dSeq (dSet 2 (dBin addO (dC (.int 1)) (dCall d_law_take (dCons (dVar 0) (dCons (dVar 1) dNil)))))
    (dSeq (dSet 3 (dCell (dLc (dRng1 (dCons (dVar 2) dNil)) (.nm 4) dYes (dC (.int 0)) [4])))
    (dSeq (dSet 5 (dUn negO (dC (.int 1))))
    (dSeq (dFor (dRng1 (dCons (dCall d_law_take (dCons (dVar 0) (dCons (dBin divO (dApp intO (dCons (dBin addO (dVar 2) (dC (.int 1))) dNil)) (dC (.int 2))) dNil))) dNil)) (.nm 6) L0_law_ring)
    (dRet (dApp tupleO (dCons (dVar 3) dNil)))))))
noncomputable def d_law_ring : List DV → AH → Res DV := dDef 10 2 false b_law_ring_
abbrev s_law_turned : Stmt := topS 35
theorem sc_law_turned : FnScope ["w", "d", "x"] ["w", "d"] (defScope s_law_turned) := ⟨rfl, rfl, rfl, by decide +kernel, rfl, by decide +kernel, by decide +kernel⟩
noncomputable def b_law_turned_ : Sig → AH → Out := (dRet (dApp tupleO (dCons (dVal (dLc (dRng1 (dCons (dApp lenO (dCons (dVar 0) dNil)) dNil)) (.nm 2) dYes (dBin ixO (dVar 0) (dBin modO (dApp intO (dCons (dBin addO (dVar 2) (dVar 1)) dNil)) (dApp lenO (dCons (dVar 0) dNil)))) [2])) dNil)))
noncomputable def d_law_turned : List DV → AH → Res DV := dDef 3 2 false b_law_turned_
abbrev s_law_is_high : Stmt := topS 36
theorem sc_law_is_high : FnScope ["w", "total", "ball"] ["w"] (defScope s_law_is_high) := ⟨rfl, rfl, rfl, by decide +kernel, rfl, by decide +kernel, by decide +kernel⟩
noncomputable def L0_law_is_high : Sig → AH → Out := (dSeq (dSet 1 (dBin subO (dBin addO (dVar 1) (dC (.int 1))) (dBin mulO1 (dC (.int 2)) (dVar 2))))
    (dIf (blOf (dBin ltO (dVar 1) (dC (.int 0)))) (dRet (dC (.bl false))) dPass))
noncomputable def b_law_is_high_ : Sig → AH → Out := (dSeq (dSet 1 (dC (.int 0)))
    (dSeq (dFor (dSeqI (dVar 0)) (.nm 2) L0_law_is_high)
    (dRet (dC (.bl true)))))
noncomputable def d_law_is_high : List DV → AH → Res DV := dDef 3 1 false b_law_is_high_
abbrev s_law_shape : Stmt := topS 37
theorem sc_law_shape : FnScope ["w", "left", "counts", "n", "gone", "k", "out", "c", "i"] ["w"] (defScope s_law_shape) := ⟨rfl, rfl, rfl, by decide +kernel, rfl, by decide +kernel, by decide +kernel⟩
noncomputable def L0_law_shape : Sig → AH → Out := (dSeq (dSet 3 (dApp lenO (dCons (dVar 1) dNil)))
    (dSeq (dSetF 4 (dLc (dRng1 (dCons (dVar 3) dNil)) (.nm 5) (dAnd (blOf (dBin eqO (dBin ixO (dVar 1) (dVar 5)) (dC (.int 1)))) (blOf (dBin eqO (dBin ixO (dVar 1) (dBin modO (dApp intO (dCons (dBin addO (dVar 5) (dC (.int 1))) dNil)) (dVar 3))) (dC (.int 0))))) (dVar 5) [5]))
    (dSeq (dSet 6 (dBin addO (dVar 4) (dVal (dLc (dSeqI (dVar 4)) (.nm 5) dYes (dBin modO (dApp intO (dCons (dBin addO (dVar 5) (dC (.int 1))) dNil)) (dVar 3)) [5]))))
    (dSeq (dSet 1 (dVal (dLc (dRng1 (dCons (dVar 3) dNil)) (.nm 5) (blOf (dBin notInO (dVar 5) (dVar 6))) (dBin ixO (dVar 1) (dVar 5)) [5])))
    (dDrop (dMeth appendM (dVar 2) (dCons (dApp lenO (dCons (dVar 4) dNil)) dNil)))))))
noncomputable def b_law_shape_ : Sig → AH → Out := (dSeq (dParC [(.nm 1), (.nm 2)] (dCons (dVal (dAppF listF (dCons (dVar 0) dNil))) (dCons (dCell (dLst dNil)) dNil)))
    (dSeq (dWhile (blOf (dBin inO (dC (.int 1)) (dVar 1))) L0_law_shape)
    (dRet (dApp tupleO (dCons (dVal (dLc (dRng1 (dCons (dApp maxO (dCons (dBin addO (dVar 2) (dVal (dLst (dCons (dC (.int 0)) dNil)))) dNil)) dNil)) (.nm 8) dYes (dApp lenO (dCons (dVal (dLc (dSeqI (dVar 2)) (.nm 7) (blOf (dBin gtO (dVar 7) (dVar 8))) (dVar 7) [7])) dNil)) [8])) dNil)))))
noncomputable def d_law_shape : List DV → AH → Res DV := dDef 9 1 false b_law_shape_
abbrev s_law_vacancy : Stmt := topS 38
theorem sc_law_vacancy : FnScope ["shape", "size", "k", "part"] ["shape", "size", "k"] (defScope s_law_vacancy) := ⟨rfl, rfl, rfl, by decide +kernel, rfl, by decide +kernel, by decide +kernel⟩
noncomputable def b_law_vacancy_ : Sig → AH → Out := (dRet (dBin subO (dVar 1) (dBin mulO1 (dC (.int 2)) (dApp sumO (dCons (dVal (dLc (dSeqI (dVar 0)) (.nm 3) dYes (dApp minO2 (dCons (dVar 2) (dCons (dVar 3) dNil))) [3])) dNil)))))
noncomputable def d_law_vacancy : List DV → AH → Res DV := dDef 4 3 false b_law_vacancy_
abbrev s_law_strings : Stmt := topS 39
theorem sc_law_strings : FnScope ["w", "strings", "x", "best", "k", "i", "singular", "s"] ["w"] (defScope s_law_strings) := ⟨rfl, rfl, rfl, by decide +kernel, rfl, by decide +kernel, by decide +kernel⟩
noncomputable def L0_law_strings : Sig → AH → Out := (dSeq (dSet 6 (dBin eqO (dBin ixO (dBin ixO (dVar 1) (dVar 5)) (dC (.int 1))) (dBin subO (dVar 2) (dBin mulO1 (dC (.int 2)) (dApp sumO (dCons (dVal (dLc (dSeqI (dVar 1)) (.nm 7) dYes (dApp minO2 (dCons (dBin ixO (dBin ixO (dVar 1) (dVar 5)) (dC (.int 0))) (dCons (dBin ixO (dVar 7) (dC (.int 0))) dNil))) [7])) dNil))))))
    (dIf (dAnd (dTru (dVar 6)) (dOr (blOf (dBin ltO (dVar 3) (dC (.int 0)))) (blOf (dBin gtO (dBin ixO (dBin ixO (dVar 1) (dVar 5)) (dC (.int 0))) (dBin ixO (dBin ixO (dVar 1) (dVar 3)) (dC (.int 0))))))) (dSet 3 (dVar 5)) dPass))
noncomputable def L1_law_strings : Sig → AH → Out := (dIf (blOf (dBin eqO (dBin ixO (dVar 0) (dVar 2)) (dC (.int 1)))) (dSeq (dAsg (.tp [(.nm 3), (.nm 4)]) (dTup (dCons (dUn negO (dC (.int 1))) (dCons (dC (.int 1)) dNil))))
    (dSeq (dFor (dRng1 (dCons (dApp lenO (dCons (dVar 1) dNil)) dNil)) (.nm 5) L0_law_strings)
    (dSeq (dIf (blOf (dBin geO (dVar 3) (dC (.int 0)))) (dSet 4 (dBin addO (dBin ixO (dMeth popM (dVar 1) (dCons (dVar 3) dNil)) (dC (.int 0))) (dC (.int 1)))) dPass)
    (dSeq (dDrop (dMeth appendM (dVar 1) (dCons (dTup (dCons (dVar 4) (dCons (dC (.int 0)) dNil))) dNil)))
    (dSub (dTup (dCons (dVar 4) (dCons (dBin subO (dBin addO (dVar 2) (dC (.int 1))) (dBin mulO1 (dC (.int 2)) (dApp sumO (dCons (dVal (dLc (dSeqI (dVar 1)) (.nm 7) dYes (dApp minO2 (dCons (dVar 4) (dCons (dBin ixO (dVar 7) (dC (.int 0))) dNil))) [7])) dNil)))) dNil))) (dVar 1) (dUn negO (dC (.int 1)))))))) dPass)
noncomputable def b_law_strings_ : Sig → AH → Out := (dSeq (dSet 1 (dCell (dLst dNil)))
    (dSeq (dFor (dRng1 (dCons (dApp lenO (dCons (dVar 0) dNil)) dNil)) (.nm 2) L1_law_strings)
    (dRet (dVal (dAppF sortedF2 (dCons (dVar 1) dNil))))))
noncomputable def d_law_strings : List DV → AH → Res DV := dDef 8 1 false b_law_strings_
abbrev s_law_angles : Stmt := topS 40
theorem sc_law_angles : FnScope ["w", "d", "strings", "lengths", "k", "j", "i"] ["w"] (defScope s_law_angles) := ⟨rfl, rfl, rfl, by decide +kernel, rfl, by decide +kernel, by decide +kernel⟩
noncomputable def L0_law_angles : Sig → AH → Out := (dSet 1 (dBin addO (dVar 1) (dC (.int 1))))
noncomputable def b_law_angles_ : Sig → AH → Out := (dSeq (dSet 1 (dC (.int 0)))
    (dSeq (dWhile (dNot (dTru (dCall d_law_is_high (dCons (dCall d_law_turned (dCons (dVar 0) (dCons (dVar 1) dNil))) dNil)))) L0_law_angles)
    (dSeq (dSet 2 (dCall d_law_strings (dCons (dCall d_law_turned (dCons (dVar 0) (dCons (dVar 1) dNil))) dNil)))
    (dSeq (dSet 3 (dVal (dAppF ssetU (dCons (dVal (dLc (dSeqI (dVar 2)) (.tp [(.nm 4), (.nm 5)]) dYes (dVar 4) [4, 5])) dNil))))
    (dRet (dApp tupleO (dCons (dVal (dLc (dSeqI (dVar 3)) (.nm 4) dYes (dTup (dCons (dVar 4) (dCons (dApp tupleO (dCons (dVal (dLc (dSeqI (dVar 2)) (.tp [(.nm 6), (.nm 5)]) (blOf (dBin eqO (dVar 6) (dVar 4))) (dBin addO (dVar 5) (dVar 1)) [6, 5])) dNil)) dNil))) [4])) dNil)))))))
noncomputable def d_law_angles : List DV → AH → Res DV := dDef 7 1 false b_law_angles_
abbrev s_law_lengths : Stmt := topS 41
theorem sc_law_lengths : FnScope ["rounds", "found", "k", "a", "item"] ["rounds"] (defScope s_law_lengths) := ⟨rfl, rfl, rfl, by decide +kernel, rfl, by decide +kernel, by decide +kernel⟩
noncomputable def L0_law_lengths : Sig → AH → Out := (dSet 1 (dBin addO (dVal (dLc (dSeqI (dVar 3)) (.nm 4) dYes (dVar 2) [4])) (dVar 1)))
noncomputable def b_law_lengths_ : Sig → AH → Out := (dSeq (dSet 1 (dVal (dLst dNil)))
    (dSeq (dFor (dSeqI (dVar 0)) (.tp [(.nm 2), (.nm 3)]) L0_law_lengths)
    (dRet (dApp tupleO (dCons (dVar 1) dNil)))))
noncomputable def d_law_lengths : List DV → AH → Res DV := dDef 5 1 false b_law_lengths_
abbrev s_law : Stmt := topS 42
theorem sc_law : FnScope ["script", "state", "w", "due", "shape", "k", "d", "turned"] ["script"] (defScope s_law) := ⟨rfl, rfl, rfl, by decide +kernel, rfl, by decide +kernel, by decide +kernel⟩
noncomputable def L0_law : Sig → AH → Out := (dIf (blOf (dBin neO (dCall (d_law_plain 8) (dCons (dCall d_vacancy_of_ring (dCons (dVar 4) (dCons (dApp lenO (dCons (dVar 2) dNil)) (dCons (dVar 5) dNil)))) dNil)) (dCall d_law_vacancy (dCons (dVar 4) (dCons (dApp lenO (dCons (dVar 2) dNil)) (dCons (dVar 5) dNil)))))) (dRet (dC (.bl false))) dPass)
noncomputable def L1_law : Sig → AH → Out := (dSeq (dSet 7 (dCall d_law_turned (dCons (dVar 2) (dCons (dVar 6) dNil))))
    (dIf (dAnd (dTru (dCall d_law_is_high (dCons (dVar 7) dNil))) (blOf (dBin neO (dCall (d_law_plain 8) (dCons (dCall d_angles (dCons (dVar 7) dNil)) dNil)) (dCall d_law_angles (dCons (dVar 7) dNil))))) (dRet (dC (.bl false))) dPass))
noncomputable def b_law_ : Sig → AH → Out := (dSeq (dSet 1 (dCall d_law_state (dCons (dVar 0) dNil)))
    (dSeq (dSet 2 (dCall d_law_ring (dCons (dVar 1) (dCons (dC (.int 40)) dNil))))
    (dSeq (dSet 3 (dCall d_law_angles (dCons (dVar 2) dNil)))
    (dSeq (dIf (dOr (blOf (dBin neO (dCall (d_law_plain 8) (dCons (dCall d_angles (dCons (dVar 2) dNil)) dNil)) (dVar 3))) (blOf (dBin isNotO (dCall d_are_rounds (dCons (dVar 3) (dCons (dApp lenO (dCons (dVar 2) dNil)) dNil))) (dC (.bl true))))) (dRet (dC (.bl false))) dPass)
    (dSeq (dSet 4 (dCall d_law_lengths (dCons (dVar 3) dNil)))
    (dSeq (dIf (dOr (blOf (dBin neO (dVar 4) (dCall d_law_shape (dCons (dVar 2) dNil)))) (blOf (dBin isNotO (dCall d_is_shape (dCons (dVar 4) (dCons (dApp lenO (dCons (dVar 2) dNil)) dNil))) (dC (.bl true))))) (dRet (dC (.bl false))) dPass)
    (dSeq (dFor (dSeqI (dVal (dLst (dCons (dC (.int 0)) (dCons (dC (.int 1)) (dCons (dC (.int 2)) (dCons (dC (.int 5)) (dCons (dC (.int 50)) (dCons (dBin addO (dC (.int 1)) (dCall d_law_take (dCons (dVar 1) (dCons (dC (.int 20)) dNil)))) dNil))))))))) (.nm 5) L0_law)
    (dSeq (dFor (dRng1 (dCons (dApp lenO (dCons (dVar 2) dNil)) dNil)) (.nm 6) L1_law)
    (dRet (dC (.bl true)))))))))))
noncomputable def d_law : List DV → AH → Res DV := dDef 8 1 false b_law_
structure Txt (P : Program) (K : PySem.W.Frag) (mg : Str → Option Value) where
  a_is_integer : Addr
  d_is_integer : FuncData
  F_is_integer : Fun K "is_integer" "is_integer" s_is_integer a_is_integer d_is_integer
  b_is_integer : Binds K d_is_integer ["value"] []
  m_is_integer : mg "is_integer" = some (.ref a_is_integer)
  a_is_partition : Addr
  d_is_partition : FuncData
  F_is_partition : Fun K "is_partition" "is_partition" s_is_partition a_is_partition d_is_partition
  b_is_partition : Binds K d_is_partition ["value", "most"] []
  m_is_partition : mg "is_partition" = some (.ref a_is_partition)
  a_is_shape : Addr
  d_is_shape : FuncData
  F_is_shape : Fun K "is_shape" "is_shape" s_is_shape a_is_shape d_is_shape
  b_is_shape : Binds K d_is_shape ["value", "size"] []
  m_is_shape : mg "is_shape" = some (.ref a_is_shape)
  a_boxes_to : Addr
  d_boxes_to : FuncData
  F_boxes_to : Fun K "boxes_to" "boxes_to" s_boxes_to a_boxes_to d_boxes_to
  b_boxes_to : Binds K d_boxes_to ["lengths", "k"] []
  m_boxes_to : mg "boxes_to" = some (.ref a_boxes_to)
  a_check_shape : Addr
  d_check_shape : FuncData
  F_check_shape : Fun K "check_shape" "check_shape" s_check_shape a_check_shape d_check_shape
  b_check_shape : Binds K d_check_shape ["value", "size"] []
  m_check_shape : mg "check_shape" = some (.ref a_check_shape)
  a_vacancy_of_ring : Addr
  d_vacancy_of_ring : FuncData
  F_vacancy_of_ring : Fun K "vacancy_of_ring" "vacancy_of_ring" s_vacancy_of_ring a_vacancy_of_ring d_vacancy_of_ring
  b_vacancy_of_ring : Binds K d_vacancy_of_ring ["shape", "size", "k"] []
  m_vacancy_of_ring : mg "vacancy_of_ring" = some (.ref a_vacancy_of_ring)
  a_is_round : Addr
  d_is_round : FuncData
  F_is_round : Fun K "is_round" "is_round" s_is_round a_is_round d_is_round
  b_is_round : Binds K d_is_round ["value"] []
  m_is_round : mg "is_round" = some (.ref a_is_round)
  a_shape_of_rounds : Addr
  d_shape_of_rounds : FuncData
  F_shape_of_rounds : Fun K "shape_of_rounds" "shape_of_rounds" s_shape_of_rounds a_shape_of_rounds d_shape_of_rounds
  b_shape_of_rounds : Binds K d_shape_of_rounds ["rounds"] []
  m_shape_of_rounds : mg "shape_of_rounds" = some (.ref a_shape_of_rounds)
  a_are_rounds : Addr
  d_are_rounds : FuncData
  F_are_rounds : Fun K "are_rounds" "are_rounds" s_are_rounds a_are_rounds d_are_rounds
  b_are_rounds : Binds K d_are_rounds ["value", "size"] []
  m_are_rounds : mg "are_rounds" = some (.ref a_are_rounds)
  a_is_ring : Addr
  d_is_ring : FuncData
  F_is_ring : Fun K "is_ring" "is_ring" s_is_ring a_is_ring d_is_ring
  b_is_ring : Binds K d_is_ring ["value"] []
  m_is_ring : mg "is_ring" = some (.ref a_is_ring)
  a_check_ring : Addr
  d_check_ring : FuncData
  F_check_ring : Fun K "check_ring" "check_ring" s_check_ring a_check_ring d_check_ring
  b_check_ring : Binds K d_check_ring ["w"] []
  m_check_ring : mg "check_ring" = some (.ref a_check_ring)
  a_turned_ring : Addr
  d_turned_ring : FuncData
  F_turned_ring : Fun K "turned_ring" "turned_ring" s_turned_ring a_turned_ring d_turned_ring
  b_turned_ring : Binds K d_turned_ring ["w", "d"] []
  m_turned_ring : mg "turned_ring" = some (.ref a_turned_ring)
  a_is_high : Addr
  d_is_high : FuncData
  F_is_high : Fun K "is_high" "is_high" s_is_high a_is_high d_is_high
  b_is_high : Binds K d_is_high ["w"] []
  m_is_high : mg "is_high" = some (.ref a_is_high)
  a_least_turn : Addr
  d_least_turn : FuncData
  F_least_turn : Fun K "least_turn" "least_turn" s_least_turn a_least_turn d_least_turn
  b_least_turn : Binds K d_least_turn ["w"] []
  m_least_turn : mg "least_turn" = some (.ref a_least_turn)
  a_vacancy : Addr
  d_vacancy : FuncData
  F_vacancy : Fun K "vacancy" "vacancy" s_vacancy a_vacancy d_vacancy
  b_vacancy : Binds K d_vacancy ["shapes", "a", "k", "x"] []
  m_vacancy : mg "vacancy" = some (.ref a_vacancy)
  a_lengths_in : Addr
  d_lengths_in : FuncData
  F_lengths_in : Fun K "lengths_in" "lengths_in" s_lengths_in a_lengths_in d_lengths_in
  b_lengths_in : Binds K d_lengths_in ["lists"] []
  m_lengths_in : mg "lengths_in" = some (.ref a_lengths_in)
  a_chosen_for : Addr
  d_chosen_for : FuncData
  F_chosen_for : Fun K "chosen_for" "chosen_for" s_chosen_for a_chosen_for d_chosen_for
  b_chosen_for : Binds K d_chosen_for ["lists", "colour", "x"] []
  m_chosen_for : mg "chosen_for" = some (.ref a_chosen_for)
  a_grown : Addr
  d_grown : FuncData
  F_grown : Fun K "grown" "grown" s_grown a_grown d_grown
  b_grown : Binds K d_grown ["lists", "chosen", "colour", "x"] []
  m_grown : mg "grown" = some (.ref a_grown)
  a_lists_of : Addr
  d_lists_of : FuncData
  F_lists_of : Fun K "lists_of" "lists_of" s_lists_of a_lists_of d_lists_of
  b_lists_of : Binds K d_lists_of ["balls"] []
  m_lists_of : mg "lists_of" = some (.ref a_lists_of)
  a_high_strings : Addr
  d_high_strings : FuncData
  F_high_strings : Fun K "high_strings" "high_strings" s_high_strings a_high_strings d_high_strings
  b_high_strings : Binds K d_high_strings ["w", "d"] []
  m_high_strings : mg "high_strings" = some (.ref a_high_strings)
  a_angles : Addr
  d_angles : FuncData
  F_angles : Fun K "angles" "angles" s_angles a_angles d_angles
  b_angles : Binds K d_angles ["w"] []
  m_angles : mg "angles" = some (.ref a_angles)
  a_law_state : Addr
  d_law_state : FuncData
  F_law_state : Fun K "_law_state" "_law_state" s_law_state a_law_state d_law_state
  b_law_state : Binds K d_law_state ["script"] []
  m_law_state : mg "_law_state" = some (.ref a_law_state)
  a_law_take : Addr
  d_law_take : FuncData
  F_law_take : Fun K "_law_take" "_law_take" s_law_take a_law_take d_law_take
  b_law_take : Binds K d_law_take ["state", "m"] []
  m_law_take : mg "_law_take" = some (.ref a_law_take)
  a_law_plain : Addr
  d_law_plain : FuncData
  F_law_plain : Fun K "_law_plain" "_law_plain" s_law_plain a_law_plain d_law_plain
  b_law_plain : Binds K d_law_plain ["value"] []
  m_law_plain : mg "_law_plain" = some (.ref a_law_plain)
  a_law_ring : Addr
  d_law_ring : FuncData
  F_law_ring : Fun K "_law_ring" "_law_ring" s_law_ring a_law_ring d_law_ring
  b_law_ring : Binds K d_law_ring ["state", "most"] []
  m_law_ring : mg "_law_ring" = some (.ref a_law_ring)
  a_law_turned : Addr
  d_law_turned : FuncData
  F_law_turned : Fun K "_law_turned" "_law_turned" s_law_turned a_law_turned d_law_turned
  b_law_turned : Binds K d_law_turned ["w", "d"] []
  m_law_turned : mg "_law_turned" = some (.ref a_law_turned)
  a_law_is_high : Addr
  d_law_is_high : FuncData
  F_law_is_high : Fun K "_law_is_high" "_law_is_high" s_law_is_high a_law_is_high d_law_is_high
  b_law_is_high : Binds K d_law_is_high ["w"] []
  m_law_is_high : mg "_law_is_high" = some (.ref a_law_is_high)
  a_law_shape : Addr
  d_law_shape : FuncData
  F_law_shape : Fun K "_law_shape" "_law_shape" s_law_shape a_law_shape d_law_shape
  b_law_shape : Binds K d_law_shape ["w"] []
  m_law_shape : mg "_law_shape" = some (.ref a_law_shape)
  a_law_vacancy : Addr
  d_law_vacancy : FuncData
  F_law_vacancy : Fun K "_law_vacancy" "_law_vacancy" s_law_vacancy a_law_vacancy d_law_vacancy
  b_law_vacancy : Binds K d_law_vacancy ["shape", "size", "k"] []
  m_law_vacancy : mg "_law_vacancy" = some (.ref a_law_vacancy)
  a_law_strings : Addr
  d_law_strings : FuncData
  F_law_strings : Fun K "_law_strings" "_law_strings" s_law_strings a_law_strings d_law_strings
  b_law_strings : Binds K d_law_strings ["w"] []
  m_law_strings : mg "_law_strings" = some (.ref a_law_strings)
  a_law_angles : Addr
  d_law_angles : FuncData
  F_law_angles : Fun K "_law_angles" "_law_angles" s_law_angles a_law_angles d_law_angles
  b_law_angles : Binds K d_law_angles ["w"] []
  m_law_angles : mg "_law_angles" = some (.ref a_law_angles)
  a_law_lengths : Addr
  d_law_lengths : FuncData
  F_law_lengths : Fun K "_law_lengths" "_law_lengths" s_law_lengths a_law_lengths d_law_lengths
  b_law_lengths : Binds K d_law_lengths ["rounds"] []
  m_law_lengths : mg "_law_lengths" = some (.ref a_law_lengths)
  a_law : Addr
  d_law : FuncData
  F_law : Fun K "law" "law" s_law a_law d_law
  b_law : Binds K d_law ["script"] []
  m_law : mg "law" = some (.ref a_law)
  z_abs : mg "abs" = none
  z_all : mg "all" = none
  z_bool : mg "bool" = none
  z_int : mg "int" = none
  z_isinstance : mg "isinstance" = none
  z_len : mg "len" = none
  z_list : mg "list" = none
  z_max : mg "max" = none
  z_min : mg "min" = none
  z_range : mg "range" = none
  z_set : mg "set" = none
  z_sorted : mg "sorted" = none
  z_str : mg "str" = none
  z_sum : mg "sum" = none
  z_tuple : mg "tuple" = none
  t_MOST_LENGTH : Tok
  c_MOST_LENGTH : mg "MOST_LENGTH" = some (.int 40 t_MOST_LENGTH)
  a_Malformed : Addr
  m_Malformed : mg "Malformed" = some (.ref a_Malformed)
  x_Malformed : PySem.W.excIn K a_Malformed [.type "ValueError", .type "Exception", .type "BaseException", .type "object"] "ValueError.__new__" = true
  k_Malformed : PySem.W.keepIn K (.ref a_Malformed) = true
  xb_Malformed : PySem.W.subIn K (.ref a_Malformed) (.type "BaseException") = some true
  xt_Malformed : PySem.W.typeIn K (.ref a_Malformed) = some (.type "type")
theorem ok_is_integer {P : Program} {w : World} {K : PySem.W.Frag} {mg : Str → Option Value} {base : Heap} (T : Txt P K mg) : FnOk P w K mg base (L2.CX P w) 1 T.a_is_integer T.d_is_integer ["value"] (spD ⟨K, mg⟩ d_is_integer) :=
  def_ok (k := 0) T.F_is_integer sc_is_integer rfl rfl fun cdv A outer s H E hr g =>
    (dss_one (ds_ret (de_and (de_isi (by decide +kernel) (by rfl) T.z_isinstance (by rfl) T.z_int b_int (de_var 0)) (de_one (de_not (de_isi (by decide +kernel) (by rfl) T.z_isinstance (by rfl) T.z_bool b_bool (de_var 0)))))))
theorem ok_is_partition {P : Program} {w : World} {K : PySem.W.Frag} {mg : Str → Option Value} {base : Heap} (T : Txt P K mg) : FnOk P w K mg base (L2.CX P w) 2 T.a_is_partition T.d_is_partition ["value", "most"] (spD ⟨K, mg⟩ d_is_partition) :=
  def_ok (k := 1) T.F_is_partition sc_is_partition rfl rfl fun cdv A outer s H E hr g =>
    (dss_cons (ds_if (dt_not (dt_tru (de_isi (by decide +kernel) (by rfl) T.z_isinstance (by rfl) T.z_tuple b_tuple (de_var 0)))) (dss_one (ds_ret de_bl)) dss_nil)
    (dss_cons (ds_set (i := 2) sc_is_partition.nd rfl (by first | exact Or.inl rfl | exact Or.inr rfl) de_int)
    (dss_cons (ds_for g (di_rng1 (by rfl) T.z_range (da_cons (de_callB ow_len (by rfl) T.z_len b_len (da_cons (de_var 0) da_nil)) da_nil)) (dg_nm sc_is_partition.nd rfl (by first | exact Or.inl rfl | exact Or.inr rfl)) (dss_cons (ds_if (dt_w (dw_or (dt_not (dt_tru (de_call g ((ok_is_integer T).mono (by decide)) hr (by rfl) T.m_is_integer T.F_is_integer.kp T.b_is_integer (da_cons (de_ix (de_var 0) (de_var 3) (fun _ _ => rfl)) da_nil)))) (dw_or (dt_cmp ow_lt (de_ix (de_var 0) (de_var 3) (fun _ _ => rfl)) de_int (nomark _)) (dw_or1 (dt_w (dw_and (dt_cmp ow_gt (de_var 3) de_int (nomark _)) (dw_and1 (dt_cmp ow_gt (de_ix (de_var 0) (de_var 3) (fun _ _ => rfl)) (de_ix (de_var 0) (de_bin ow_sub (de_var 3) de_int) (fun _ _ => rfl)) (nomark _))))))))) (dss_one (ds_ret de_bl)) dss_nil)
    (dss_one (ds_set (i := 2) sc_is_partition.nd rfl (by first | exact Or.inl rfl | exact Or.inr rfl) (de_bin ow_add (de_var 2) (de_ix (de_var 0) (de_var 3) (fun _ _ => rfl)))))))
    (dss_one (ds_ret (de_cmp ow_le (de_var 2) (de_var 1) (nomark _)))))))
theorem ok_is_shape {P : Program} {w : World} {K : PySem.W.Frag} {mg : Str → Option Value} {base : Heap} (T : Txt P K mg) : FnOk P w K mg base (L2.CX P w) 3 T.a_is_shape T.d_is_shape ["value", "size"] (spD ⟨K, mg⟩ d_is_shape) :=
  def_ok (k := 2) T.F_is_shape sc_is_shape rfl rfl fun cdv A outer s H E hr g =>
    (dss_cons (ds_if (dt_w (dw_or (dt_not (dt_tru (de_call g ((ok_is_integer T).mono (by decide)) hr (by rfl) T.m_is_integer T.F_is_integer.kp T.b_is_integer (da_cons (de_var 1) da_nil)))) (dw_or (dt_cmp ow_lt (de_var 1) de_int (nomark _)) (dw_or (dt_cmp ow_gt (de_var 1) (de_gint (by rfl) T.c_MOST_LENGTH) (nomark _)) (dw_or1 (dt_not (dt_tru (de_call g ((ok_is_partition T).mono (by decide)) hr (by rfl) T.m_is_partition T.F_is_partition.kp T.b_is_partition (da_cons (de_var 0) (da_cons (de_gint (by rfl) T.c_MOST_LENGTH) da_nil)))))))))) (dss_one (ds_ret de_bl)) dss_nil)
    (dss_one (ds_ret (de_cmp ow_lt (de_bin ow_mul1 de_int (de_callB (ow_sum rfl) (by rfl) T.z_sum b_sum (da_cons (de_var 0) da_nil))) (de_var 1) (nomark _)))))
theorem ok_boxes_to {P : Program} {w : World} {K : PySem.W.Frag} {mg : Str → Option Value} {base : Heap} (T : Txt P K mg) : FnOk P w K mg base (L2.CX P w) 1 T.a_boxes_to T.d_boxes_to ["lengths", "k"] (spD ⟨K, mg⟩ d_boxes_to) :=
  def_ok (k := 0) T.F_boxes_to sc_boxes_to rfl rfl fun cdv A outer s H E hr g =>
    (dss_one (ds_ret (de_callB (ow_sum rfl) (by rfl) T.z_sum b_sum (da_cons (de_val (fe_lc g sc_boxes_to.nd (di_seq (de_var 0)) (blkOk_by (own := [("length", 2)]) (by kernel_rfl)) (fun _ _ _ _ _ => (dg_nm sc_boxes_to.nd rfl (by first | exact Or.inl rfl | exact Or.inr rfl))) (fun _ _ _ _ _ => dts_nil) (fun _ _ _ _ _ => (de_callB (ow_min2 rfl hr.units) (by rfl) T.z_min b_min (da_cons (de_var 1) (da_cons (de_var 2) da_nil)))) (by decide))) da_nil))))
theorem ok_check_shape {P : Program} {w : World} {K : PySem.W.Frag} {mg : Str → Option Value} {base : Heap} (T : Txt P K mg) : FnOk P w K mg base (L2.CX P w) 4 T.a_check_shape T.d_check_shape ["value", "size"] (spD ⟨K, mg⟩ d_check_shape) :=
  def_ok (k := 3) T.F_check_shape sc_check_shape rfl rfl fun cdv A outer s H E hr g =>
    (dss_one (ds_if (dt_not (dt_tru (de_call g ((ok_is_shape T).mono (by decide)) hr (by rfl) T.m_is_shape T.F_is_shape.kp T.b_is_shape (da_cons (de_var 0) (da_cons (de_var 1) da_nil))))) (dss_one (ds_raise g (pmk_own PySem.F.excBase_ValueError T.x_Malformed T.m_Malformed T.k_Malformed (raises_own T.xb_Malformed T.xt_Malformed) rfl) T.m_Malformed)) dss_nil))
theorem ok_vacancy_of_ring {P : Program} {w : World} {K : PySem.W.Frag} {mg : Str → Option Value} {base : Heap} (T : Txt P K mg) : FnOk P w K mg base (L2.CX P w) 5 T.a_vacancy_of_ring T.d_vacancy_of_ring ["shape", "size", "k"] (spD ⟨K, mg⟩ d_vacancy_of_ring) :=
  def_ok (k := 4) T.F_vacancy_of_ring sc_vacancy_of_ring rfl rfl fun cdv A outer s H E hr g =>
    (dss_cons (ds_expr (de_call g ((ok_check_shape T).mono (by decide)) hr (by rfl) T.m_check_shape T.F_check_shape.kp T.b_check_shape (da_cons (de_var 0) (da_cons (de_var 1) da_nil))))
    (dss_one (ds_ret (de_bin ow_sub (de_var 1) (de_bin ow_mul1 de_int (de_call g ((ok_boxes_to T).mono (by decide)) hr (by rfl) T.m_boxes_to T.F_boxes_to.kp T.b_boxes_to (da_cons (de_var 0) (da_cons (de_var 2) da_nil))))))))
theorem ok_is_round {P : Program} {w : World} {K : PySem.W.Frag} {mg : Str → Option Value} {base : Heap} (T : Txt P K mg) : FnOk P w K mg base (L2.CX P w) 2 T.a_is_round T.d_is_round ["value"] (spD ⟨K, mg⟩ d_is_round) :=
  def_ok (k := 1) T.F_is_round sc_is_round rfl rfl fun cdv A outer s H E hr g =>
    (dss_cons (ds_if (dt_w (dw_or (dt_not (dt_tru (de_isi (by decide +kernel) (by rfl) T.z_isinstance (by rfl) T.z_tuple b_tuple (de_var 0)))) (dw_or (dt_cmp (ow_ne hr.units) (de_callB ow_len (by rfl) T.z_len b_len (da_cons (de_var 0) da_nil)) de_int (nomark _)) (dw_or (dt_not (dt_tru (de_call g ((ok_is_integer T).mono (by decide)) hr (by rfl) T.m_is_integer T.F_is_integer.kp T.b_is_integer (da_cons (de_ix (de_var 0) de_int (fun _ _ => rfl)) da_nil)))) (dw_or1 (dt_not (dt_tru (de_isi (by decide +kernel) (by rfl) T.z_isinstance (by rfl) T.z_tuple b_tuple (de_ix (de_var 0) de_int (fun _ _ => rfl)))))))))) (dss_one (ds_ret de_bl)) dss_nil)
    (dss_cons (ds_set (i := 1) sc_is_round.nd rfl (by first | exact Or.inl rfl | exact Or.inr rfl) (de_ix (de_var 0) de_int (fun _ _ => rfl)))
    (dss_cons (ds_if (dt_w (dw_or (dt_cmp (ow_eq hr.units) (de_callB ow_len (by rfl) T.z_len b_len (da_cons (de_var 1) da_nil)) de_int (nomark _)) (dw_or1 (dt_not (dt_tru (de_callB (ow_all rfl) (by rfl) T.z_all b_all (da_cons (de_val (fe_lc g sc_is_round.nd (di_seq (de_var 1)) (blkOk_by (own := [("item", 2)]) (by kernel_rfl)) (fun _ _ _ _ _ => (dg_nm sc_is_round.nd rfl (by first | exact Or.inl rfl | exact Or.inr rfl))) (fun _ _ _ _ _ => dts_nil) (fun _ _ _ _ _ => (de_call (Gd.blk g _ _ _ _ _) ((ok_is_integer T).mono (by decide)) hr (by rfl) T.m_is_integer T.F_is_integer.kp T.b_is_integer (da_cons (de_var 2) da_nil))) (by decide))) da_nil))))))) (dss_one (ds_ret de_bl)) dss_nil)
    (dss_one (ds_ret (de_callB (ow_all rfl) (by rfl) T.z_all b_all (da_cons (de_val (fe_lc g sc_is_round.nd (di_rng1 (by rfl) T.z_range (da_cons (de_bin ow_sub (de_callB ow_len (by rfl) T.z_len b_len (da_cons (de_var 1) da_nil)) de_int) da_nil)) (blkOk_by (own := [("i", 3)]) (by kernel_rfl)) (fun _ _ _ _ _ => (dg_nm sc_is_round.nd rfl (by first | exact Or.inl rfl | exact Or.inr rfl))) (fun _ _ _ _ _ => dts_nil) (fun _ _ _ _ _ => (de_cmp ow_le (de_ix (de_var 1) (de_var 3) (fun _ _ => rfl)) (de_ix (de_var 1) (de_bin ow_add (de_var 3) de_int) (fun _ _ => rfl)) (nomark _))) (by decide))) da_nil)))))))
theorem ok_shape_of_rounds {P : Program} {w : World} {K : PySem.W.Frag} {mg : Str → Option Value} {base : Heap} (T : Txt P K mg) : FnOk P w K mg base (L2.CX P w) 1 T.a_shape_of_rounds T.d_shape_of_rounds ["rounds"] (spD ⟨K, mg⟩ d_shape_of_rounds) :=
  def_ok (k := 0) T.F_shape_of_rounds sc_shape_of_rounds rfl rfl fun cdv A outer s H E hr g =>
    (dss_cons (ds_set (i := 1) sc_shape_of_rounds.nd rfl (by first | exact Or.inl rfl | exact Or.inr rfl) (de_tup da_nil))
    (dss_cons (ds_for g (di_seq (de_var 0)) (dg_tp rfl (dgs_cons (dg_nm sc_shape_of_rounds.nd rfl (by first | exact Or.inl rfl | exact Or.inr rfl)) (dgs_cons (dg_nm sc_shape_of_rounds.nd rfl (by first | exact Or.inl rfl | exact Or.inr rfl)) dgs_nil))) (dss_one (ds_set (i := 1) sc_shape_of_rounds.nd rfl (by first | exact Or.inl rfl | exact Or.inr rfl) (de_bin ow_add (de_bin ow_mul1 (de_tup (da_cons (de_var 2) da_nil)) (de_callB ow_len (by rfl) T.z_len b_len (da_cons (de_var 3) da_nil))) (de_var 1)))))
    (dss_one (ds_ret (de_var 1)))))
theorem ok_are_rounds {P : Program} {w : World} {K : PySem.W.Frag} {mg : Str → Option Value} {base : Heap} (T : Txt P K mg) : FnOk P w K mg base (L2.CX P w) 6 T.a_are_rounds T.d_are_rounds ["value", "size"] (spD ⟨K, mg⟩ d_are_rounds) :=
  def_ok (k := 5) T.F_are_rounds sc_are_rounds rfl rfl fun cdv A outer s H E hr g =>
    (dss_cons (ds_if (dt_w (dw_or (dt_not (dt_tru (de_isi (by decide +kernel) (by rfl) T.z_isinstance (by rfl) T.z_tuple b_tuple (de_var 0)))) (dw_or1 (dt_not (dt_tru (de_callB (ow_all rfl) (by rfl) T.z_all b_all (da_cons (de_val (fe_lc g sc_are_rounds.nd (di_seq (de_var 0)) (blkOk_by (own := [("pair", 2)]) (by kernel_rfl)) (fun _ _ _ _ _ => (dg_nm sc_are_rounds.nd rfl (by first | exact Or.inl rfl | exact Or.inr rfl))) (fun _ _ _ _ _ => dts_nil) (fun _ _ _ _ _ => (de_call (Gd.blk g _ _ _ _ _) ((ok_is_round T).mono (by decide)) hr (by rfl) T.m_is_round T.F_is_round.kp T.b_is_round (da_cons (de_var 2) da_nil))) (by decide))) da_nil))))))) (dss_one (ds_ret de_bl)) dss_nil)
    (dss_cons (ds_for g (di_rng1 (by rfl) T.z_range (da_cons (de_bin ow_sub (de_callB ow_len (by rfl) T.z_len b_len (da_cons (de_var 0) da_nil)) de_int) da_nil)) (dg_nm sc_are_rounds.nd rfl (by first | exact Or.inl rfl | exact Or.inr rfl)) (dss_one (ds_if (dt_cmp ow_ge (de_ix (de_ix (de_var 0) (de_var 3) (fun _ _ => rfl)) de_int (fun _ _ => rfl)) (de_ix (de_ix (de_var 0) (de_bin ow_add (de_var 3) de_int) (fun _ _ => rfl)) de_int (fun _ _ => rfl)) (nomark _)) (dss_one (ds_ret de_bl)) dss_nil)))
    (dss_cons (ds_if (dt_cmp ow_gt (de_callB (ow_sum rfl) (by rfl) T.z_sum b_sum (da_cons (de_val (fe_lc g sc_are_rounds.nd (di_seq (de_var 0)) (blkOk_by (own := [("_", 4), ("a", 5)]) (by kernel_rfl)) (fun _ _ _ _ _ => (dg_tp rfl (dgs_cons (dg_nm sc_are_rounds.nd rfl (by first | exact Or.inl rfl | exact Or.inr rfl)) (dgs_cons (dg_nm sc_are_rounds.nd rfl (by first | exact Or.inl rfl | exact Or.inr rfl)) dgs_nil)))) (fun _ _ _ _ _ => dts_nil) (fun _ _ _ _ _ => (de_callB ow_len (by rfl) T.z_len b_len (da_cons (de_var 5) da_nil))) (by decide))) da_nil)) (de_gint (by rfl) T.c_MOST_LENGTH) (nomark _)) (dss_one (ds_ret de_bl)) dss_nil)
    (dss_cons (ds_set (i := 6) sc_are_rounds.nd rfl (by first | exact Or.inl rfl | exact Or.inr rfl) (de_call g ((ok_shape_of_rounds T).mono (by decide)) hr (by rfl) T.m_shape_of_rounds T.F_shape_of_rounds.kp T.b_shape_of_rounds (da_cons (de_var 0) da_nil)))
    (dss_cons (ds_if (dt_not (dt_tru (de_call g ((ok_is_shape T).mono (by decide)) hr (by rfl) T.m_is_shape T.F_is_shape.kp T.b_is_shape (da_cons (de_var 6) (da_cons (de_var 1) da_nil))))) (dss_one (ds_ret de_bl)) dss_nil)
    (dss_one (ds_ret (de_callB (ow_all rfl) (by rfl) T.z_all b_all (da_cons (de_val (fe_lc g sc_are_rounds.nd (di_seq (de_var 0)) (blkOk_by (own := [("k", 7), ("a", 5)]) (by kernel_rfl)) (fun _ _ _ _ _ => (dg_tp rfl (dgs_cons (dg_nm sc_are_rounds.nd rfl (by first | exact Or.inl rfl | exact Or.inr rfl)) (dgs_cons (dg_nm sc_are_rounds.nd rfl (by first | exact Or.inl rfl | exact Or.inr rfl)) dgs_nil)))) (fun _ _ _ _ _ => dts_nil) (fun _ _ _ _ _ => (de_cmp ow_le (de_ix (de_var 5) (de_un ow_neg de_int) (fun _ _ => rfl)) (de_bin ow_add (de_ix (de_var 5) de_int (fun _ _ => rfl)) (de_call (Gd.blk g _ _ _ _ _) ((ok_vacancy_of_ring T).mono (by decide)) hr (by rfl) T.m_vacancy_of_ring T.F_vacancy_of_ring.kp T.b_vacancy_of_ring (da_cons (de_var 6) (da_cons (de_var 1) (da_cons (de_var 7) da_nil))))) (nomark _))) (by decide))) da_nil)))))))))
theorem ok_is_ring {P : Program} {w : World} {K : PySem.W.Frag} {mg : Str → Option Value} {base : Heap} (T : Txt P K mg) : FnOk P w K mg base (L2.CX P w) 2 T.a_is_ring T.d_is_ring ["value"] (spD ⟨K, mg⟩ d_is_ring) :=
  def_ok (k := 1) T.F_is_ring sc_is_ring rfl rfl fun cdv A outer s H E hr g =>
    (dss_cons (ds_if (dt_w (dw_or (dt_not (dt_tru (de_isi (by decide +kernel) (by rfl) T.z_isinstance (by rfl) T.z_tuple b_tuple (de_var 0)))) (dw_or (dt_cmp ow_lt (de_callB ow_len (by rfl) T.z_len b_len (da_cons (de_var 0) da_nil)) de_int (nomark _)) (dw_or1 (dt_cmp ow_gt (de_callB ow_len (by rfl) T.z_len b_len (da_cons (de_var 0) da_nil)) (de_gint (by rfl) T.c_MOST_LENGTH) (nomark _)))))) (dss_one (ds_ret de_bl)) dss_nil)
    (dss_cons (ds_if (dt_not (dt_tru (de_callB (ow_all rfl) (by rfl) T.z_all b_all (da_cons (de_val (fe_lc g sc_is_ring.nd (di_seq (de_var 0)) (blkOk_by (own := [("item", 1)]) (by kernel_rfl)) (fun _ _ _ _ _ => (dg_nm sc_is_ring.nd rfl (by first | exact Or.inl rfl | exact Or.inr rfl))) (fun _ _ _ _ _ => dts_nil) (fun _ _ _ _ _ => (de_and (de_call (Gd.blk g _ _ _ _ _) ((ok_is_integer T).mono (by decide)) hr (by rfl) T.m_is_integer T.F_is_integer.kp T.b_is_integer (da_cons (de_var 1) da_nil)) (de_one (de_chain ow_le ow_le de_int (de_var 1) de_int)))) (by decide))) da_nil)))) (dss_one (ds_ret de_bl)) dss_nil)
    (dss_one (ds_ret (de_cmp ow_lt (de_bin ow_mul1 de_int (de_callB (ow_sum rfl) (by rfl) T.z_sum b_sum (da_cons (de_var 0) da_nil))) (de_callB ow_len (by rfl) T.z_len b_len (da_cons (de_var 0) da_nil)) (nomark _))))))
theorem ok_check_ring {P : Program} {w : World} {K : PySem.W.Frag} {mg : Str → Option Value} {base : Heap} (T : Txt P K mg) : FnOk P w K mg base (L2.CX P w) 3 T.a_check_ring T.d_check_ring ["w"] (spD ⟨K, mg⟩ d_check_ring) :=
  def_ok (k := 2) T.F_check_ring sc_check_ring rfl rfl fun cdv A outer s H E hr g =>
    (dss_one (ds_if (dt_not (dt_tru (de_call g ((ok_is_ring T).mono (by decide)) hr (by rfl) T.m_is_ring T.F_is_ring.kp T.b_is_ring (da_cons (de_var 0) da_nil)))) (dss_one (ds_raise g (pmk_own PySem.F.excBase_ValueError T.x_Malformed T.m_Malformed T.k_Malformed (raises_own T.xb_Malformed T.xt_Malformed) rfl) T.m_Malformed)) dss_nil))
theorem ok_turned_ring {P : Program} {w : World} {K : PySem.W.Frag} {mg : Str → Option Value} {base : Heap} (T : Txt P K mg) : FnOk P w K mg base (L2.CX P w) 4 T.a_turned_ring T.d_turned_ring ["w", "d"] (spD ⟨K, mg⟩ d_turned_ring) :=
  def_ok (k := 3) T.F_turned_ring sc_turned_ring rfl rfl fun cdv A outer s H E hr g =>
    (dss_cons (ds_expr (de_call g ((ok_check_ring T).mono (by decide)) hr (by rfl) T.m_check_ring T.F_check_ring.kp T.b_check_ring (da_cons (de_var 0) da_nil)))
    (dss_cons (ds_set (i := 2) sc_turned_ring.nd rfl (by first | exact Or.inl rfl | exact Or.inr rfl) (de_bin ow_mod (de_var 1) (de_callB ow_len (by rfl) T.z_len b_len (da_cons (de_var 0) da_nil))))
    (dss_one (ds_ret (de_bin ow_add (de_sl (de_var 0) (dp_some (de_var 2)) dp_none) (de_sl (de_var 0) dp_none (dp_some (de_var 2))))))))
theorem ok_is_high {P : Program} {w : World} {K : PySem.W.Frag} {mg : Str → Option Value} {base : Heap} (T : Txt P K mg) : FnOk P w K mg base (L2.CX P w) 4 T.a_is_high T.d_is_high ["w"] (spD ⟨K, mg⟩ d_is_high) :=
  def_ok (k := 3) T.F_is_high sc_is_high rfl rfl fun cdv A outer s H E hr g =>
    (dss_cons (ds_expr (de_call g ((ok_check_ring T).mono (by decide)) hr (by rfl) T.m_check_ring T.F_check_ring.kp T.b_check_ring (da_cons (de_var 0) da_nil)))
    (dss_cons (ds_set (i := 1) sc_is_high.nd rfl (by first | exact Or.inl rfl | exact Or.inr rfl) de_int)
    (dss_cons (ds_for g (di_seq (de_var 0)) (dg_nm sc_is_high.nd rfl (by first | exact Or.inl rfl | exact Or.inr rfl)) (dss_cons (ds_set (i := 1) sc_is_high.nd rfl (by first | exact Or.inl rfl | exact Or.inr rfl) (de_bin ow_sub (de_bin ow_add (de_var 1) de_int) (de_bin ow_mul1 de_int (de_var 2))))
    (dss_one (ds_if (dt_cmp ow_lt (de_var 1) de_int (nomark _)) (dss_one (ds_ret de_bl)) dss_nil))))
    (dss_one (ds_ret de_bl)))))
theorem ok_least_turn {P : Program} {w : World} {K : PySem.W.Frag} {mg : Str → Option Value} {base : Heap} (T : Txt P K mg) : FnOk P w K mg base (L2.CX P w) 5 T.a_least_turn T.d_least_turn ["w"] (spD ⟨K, mg⟩ d_least_turn) :=
  def_ok (k := 4) T.F_least_turn sc_least_turn rfl rfl fun cdv A outer s H E hr g =>
    (dss_cons (ds_set (i := 1) sc_least_turn.nd rfl (by first | exact Or.inl rfl | exact Or.inr rfl) de_int)
    (dss_cons (ds_while g (dt_not (dt_tru (de_call g ((ok_is_high T).mono (by decide)) hr (by rfl) T.m_is_high T.F_is_high.kp T.b_is_high (da_cons (de_call g ((ok_turned_ring T).mono (by decide)) hr (by rfl) T.m_turned_ring T.F_turned_ring.kp T.b_turned_ring (da_cons (de_var 0) (da_cons (de_var 1) da_nil))) da_nil)))) (dss_one (ds_set (i := 1) sc_least_turn.nd rfl (by first | exact Or.inl rfl | exact Or.inr rfl) (de_bin ow_add (de_var 1) de_int))))
    (dss_one (ds_ret (de_var 1)))))
theorem ok_vacancy {P : Program} {w : World} {K : PySem.W.Frag} {mg : Str → Option Value} {base : Heap} (T : Txt P K mg) : FnOk P w K mg base (L2.CX P w) 2 T.a_vacancy T.d_vacancy ["shapes", "a", "k", "x"] (spD ⟨K, mg⟩ d_vacancy) :=
  def_ok (k := 1) T.F_vacancy sc_vacancy rfl rfl fun cdv A outer s H E hr g =>
    (dss_cons (ds_set (i := 4) sc_vacancy.nd rfl (by first | exact Or.inl rfl | exact Or.inr rfl) (de_ite (dt_cmp (ow_eq hr.units) (de_var 1) de_int (nomark _)) (de_var 3) (de_call g ((ok_boxes_to T).mono (by decide)) hr (by rfl) T.m_boxes_to T.F_boxes_to.kp T.b_boxes_to (da_cons (de_ix (de_var 0) (de_bin ow_sub (de_var 1) de_int) (fun _ _ => rfl)) (da_cons (de_var 2) da_nil)))))
    (dss_cons (ds_set (i := 5) sc_vacancy.nd rfl (by first | exact Or.inl rfl | exact Or.inr rfl) (de_ite (dt_cmp (ow_eq hr.units) (de_var 1) de_int (nomark _)) de_int (de_call g ((ok_boxes_to T).mono (by decide)) hr (by rfl) T.m_boxes_to T.F_boxes_to.kp T.b_boxes_to (da_cons (de_ix (de_var 0) (de_var 1) (fun _ _ => rfl)) (da_cons (de_var 2) da_nil)))))
    (dss_one (ds_ret (de_bin ow_add (de_bin ow_sub (de_var 4) (de_bin ow_mul1 de_int (de_call g ((ok_boxes_to T).mono (by decide)) hr (by rfl) T.m_boxes_to T.F_boxes_to.kp T.b_boxes_to (da_cons (de_ix (de_var 0) (de_bin ow_sub (de_var 1) de_int) (fun _ _ => rfl)) (da_cons (de_var 2) da_nil))))) (de_var 5))))))
theorem ok_lengths_in {P : Program} {w : World} {K : PySem.W.Frag} {mg : Str → Option Value} {base : Heap} (T : Txt P K mg) : FnOk P w K mg base (L2.CX P w) 1 T.a_lengths_in T.d_lengths_in ["lists"] (spD ⟨K, mg⟩ d_lengths_in) :=
  def_ok (k := 0) T.F_lengths_in sc_lengths_in rfl rfl fun cdv A outer s H E hr g =>
    (dss_one (ds_ret (de_callTy ow_tuple (by rfl) T.z_tuple b_tuple (da_cons (de_val (fe_lc g sc_lengths_in.nd (di_seq (de_var 0)) (blkOk_by (own := [("strings", 3)]) (by kernel_rfl)) (fun _ _ _ _ _ => (dg_nm sc_lengths_in.nd rfl (by first | exact Or.inl rfl | exact Or.inr rfl))) (fun _ _ _ _ _ => dts_nil) (fun _ _ _ _ _ => (de_callTy ow_tuple (by rfl) T.z_tuple b_tuple (da_cons (de_val (fe_lc (Gd.blk g _ _ _ _ _) sc_lengths_in.nd (di_seq (de_var 3)) (blkOk_by (own := [("length", 1), ("_", 2)]) (by kernel_rfl)) (fun _ _ _ _ _ => (dg_tp rfl (dgs_cons (dg_nm sc_lengths_in.nd rfl (by first | exact Or.inl rfl | exact Or.inr rfl)) (dgs_cons (dg_nm sc_lengths_in.nd rfl (by first | exact Or.inl rfl | exact Or.inr rfl)) dgs_nil)))) (fun _ _ _ _ _ => dts_nil) (fun _ _ _ _ _ => (de_var 1)) (by decide))) da_nil))) (by decide))) da_nil))))
theorem ok_chosen_for {P : Program} {w : World} {K : PySem.W.Frag} {mg : Str → Option Value} {base : Heap} (T : Txt P K mg) : FnOk P w K mg base (L2.CX P w) 3 T.a_chosen_for T.d_chosen_for ["lists", "colour", "x"] (spD ⟨K, mg⟩ d_chosen_for) :=
  def_ok (k := 2) T.F_chosen_for sc_chosen_for rfl rfl fun cdv A outer s H E hr g =>
    (dss_cons (ds_set (i := 3) sc_chosen_for.nd rfl (by first | exact Or.inl rfl | exact Or.inr rfl) (de_call g ((ok_lengths_in T).mono (by decide)) hr (by rfl) T.m_lengths_in T.F_lengths_in.kp T.b_lengths_in (da_cons (de_var 0) da_nil)))
    (dss_cons (ds_set (i := 4) sc_chosen_for.nd rfl (by first | exact Or.inl rfl | exact Or.inr rfl) (de_cell (fe_lst da_nil)))
    (dss_cons (ds_set (i := 5) sc_chosen_for.nd rfl (by first | exact Or.inl rfl | exact Or.inr rfl) de_non)
    (dss_cons (ds_for g (di_rng3 (by rfl) T.z_range (da_cons (de_var 1) (da_cons de_int (da_cons (de_un ow_neg de_int) da_nil)))) (dg_nm sc_chosen_for.nd rfl (by first | exact Or.inl rfl | exact Or.inr rfl)) (dss_cons (ds_set (i := 7) sc_chosen_for.nd rfl (by first | exact Or.inl rfl | exact Or.inr rfl) (de_ix (de_var 0) (de_bin ow_sub (de_var 6) de_int) (fun _ _ => rfl)))
    (dss_cons (ds_set (i := 8) sc_chosen_for.nd rfl (by first | exact Or.inl rfl | exact Or.inr rfl) (de_un ow_neg de_int))
    (dss_cons (ds_for g (di_rng1 (by rfl) T.z_range (da_cons (de_callB ow_len (by rfl) T.z_len b_len (da_cons (de_var 7) da_nil)) da_nil)) (dg_nm sc_chosen_for.nd rfl (by first | exact Or.inl rfl | exact Or.inr rfl)) (dss_cons (ds_asg (de_ix (de_var 7) (de_var 9) (fun _ _ => rfl)) (dg_tp rfl (dgs_cons (dg_nm sc_chosen_for.nd rfl (by first | exact Or.inl rfl | exact Or.inr rfl)) (dgs_cons (dg_nm sc_chosen_for.nd rfl (by first | exact Or.inl rfl | exact Or.inr rfl)) dgs_nil))))
    (dss_one (ds_if (dt_w (dw_and (dt_w (dw_or (dt_cmp ow_is (de_var 5) de_non (nomark _)) (dw_or1 (dt_cmp ow_le (de_var 10) (de_var 5) (nomark _))))) (dw_and1 (dt_cmp (ow_eq hr.units) (de_var 11) (de_call g ((ok_vacancy T).mono (by decide)) hr (by rfl) T.m_vacancy T.F_vacancy.kp T.b_vacancy (da_cons (de_var 3) (da_cons (de_var 6) (da_cons (de_var 10) (da_cons (de_var 2) da_nil))))) (nomark _))))) (dss_one (ds_if (dt_w (dw_or (dt_cmp ow_lt (de_var 8) de_int (nomark _)) (dw_or1 (dt_cmp ow_gt (de_var 10) (de_ix (de_ix (de_var 7) (de_var 8) (fun _ _ => rfl)) de_int (fun _ _ => rfl)) (nomark _))))) (dss_one (ds_set (i := 8) sc_chosen_for.nd rfl (by first | exact Or.inl rfl | exact Or.inr rfl) (de_var 9))) dss_nil)) dss_nil))))
    (dss_cons (ds_set (i := 5) sc_chosen_for.nd rfl (by first | exact Or.inl rfl | exact Or.inr rfl) (de_ite (dt_cmp ow_lt (de_var 8) de_int (nomark _)) de_int (de_ix (de_ix (de_var 7) (de_var 8) (fun _ _ => rfl)) de_int (fun _ _ => rfl))))
    (dss_one (ds_expr (de_meth PySem.F.slot_list_append PySem.F.type_list_append ow_append (de_var 4) (da_cons (de_var 8) da_nil)))))))))
    (dss_one (ds_ret (de_var 4)))))))
theorem ok_grown {P : Program} {w : World} {K : PySem.W.Frag} {mg : Str → Option Value} {base : Heap} (T : Txt P K mg) : FnOk P w K mg base (L2.CX P w) 3 T.a_grown T.d_grown ["lists", "chosen", "colour", "x"] (spD ⟨K, mg⟩ d_grown) :=
  def_ok (k := 2) T.F_grown sc_grown rfl rfl fun cdv A outer s H E hr g =>
    (dss_cons (ds_setLcN (i := 4) g sc_grown.nd rfl rfl (sw_true rfl rfl rfl (by decide +kernel)) (di_seq (de_var 0)) (blkOk_by (own := [("strings", 5)]) (by kernel_rfl)) (fun _ _ _ _ _ => (dg_nm sc_grown.nd rfl (by first | exact Or.inl rfl | exact Or.inr rfl))) (fun _ _ _ _ _ => dts_nil) (fun _ _ _ _ _ => (de_cell (fe_callTy ow_list (by rfl) T.z_list b_list (da_cons (de_var 5) da_nil)))) (by decide))
    (dss_cons (ds_set (i := 6) sc_grown.nd rfl (by first | exact Or.inl rfl | exact Or.inr rfl) (de_cell (fe_lst da_nil)))
    (dss_cons (ds_for g (di_rng1 (by rfl) T.z_range (da_cons (de_var 2) da_nil)) (dg_nm sc_grown.nd rfl (by first | exact Or.inl rfl | exact Or.inr rfl)) (dss_cons (ds_set (i := 5) sc_grown.nd rfl (by first | exact Or.inl rfl | exact Or.inr rfl) (de_ix (de_var 4) (de_bin ow_sub (de_bin ow_sub (de_var 2) (de_var 7)) de_int) (fun _ _ => rfl)))
    (dss_cons (ds_if (dt_cmp ow_lt (de_ix (de_var 1) (de_var 7) (fun _ _ => rfl)) de_int (nomark _)) (dss_cons (ds_expr (de_meth PySem.F.slot_list_append PySem.F.type_list_append ow_append (de_var 5) (da_cons (de_tup (da_cons de_int (da_cons de_int da_nil))) da_nil)))
    (dss_one (ds_expr (de_meth PySem.F.slot_list_append PySem.F.type_list_append ow_append (de_var 6) (da_cons (de_bin ow_sub (de_callB ow_len (by rfl) T.z_len b_len (da_cons (de_var 5) da_nil)) de_int) da_nil))))) (dss_one (ds_expr (de_meth PySem.F.slot_list_append PySem.F.type_list_append ow_append (de_var 6) (da_cons (de_ix (de_var 1) (de_var 7) (fun _ _ => rfl)) da_nil)))))
    (dss_one (ds_sub (de_tup (da_cons (de_bin ow_add (de_ix (de_ix (de_var 5) (de_ix (de_var 6) (de_var 7) (fun _ _ => rfl)) (fun _ _ => rfl)) de_int (fun _ _ => rfl)) de_int) (da_cons de_int da_nil))) (de_var 5) (de_ix (de_var 6) (de_var 7) (fun _ _ => rfl)))))))
    (dss_cons (ds_set (i := 8) sc_grown.nd rfl (by first | exact Or.inl rfl | exact Or.inr rfl) (de_call g ((ok_lengths_in T).mono (by decide)) hr (by rfl) T.m_lengths_in T.F_lengths_in.kp T.b_lengths_in (da_cons (de_var 4) da_nil)))
    (dss_cons (ds_for g (di_rng1 (by rfl) T.z_range (da_cons (de_var 2) da_nil)) (dg_nm sc_grown.nd rfl (by first | exact Or.inl rfl | exact Or.inr rfl)) (dss_cons (ds_set (i := 5) sc_grown.nd rfl (by first | exact Or.inl rfl | exact Or.inr rfl) (de_ix (de_var 4) (de_bin ow_sub (de_bin ow_sub (de_var 2) (de_var 7)) de_int) (fun _ _ => rfl)))
    (dss_cons (ds_set (i := 9) sc_grown.nd rfl (by first | exact Or.inl rfl | exact Or.inr rfl) (de_ix (de_ix (de_var 5) (de_ix (de_var 6) (de_var 7) (fun _ _ => rfl)) (fun _ _ => rfl)) de_int (fun _ _ => rfl)))
    (dss_one (ds_sub (de_tup (da_cons (de_var 9) (da_cons (de_call g ((ok_vacancy T).mono (by decide)) hr (by rfl) T.m_vacancy T.F_vacancy.kp T.b_vacancy (da_cons (de_var 8) (da_cons (de_bin ow_sub (de_var 2) (de_var 7)) (da_cons (de_var 9) (da_cons (de_bin ow_add (de_var 3) de_int) da_nil))))) da_nil))) (de_var 5) (de_ix (de_var 6) (de_var 7) (fun _ _ => rfl)))))))
    (dss_one (ds_ret (de_var 4))))))))
theorem ok_lists_of {P : Program} {w : World} {K : PySem.W.Frag} {mg : Str → Option Value} {base : Heap} (T : Txt P K mg) : FnOk P w K mg base (L2.CX P w) 4 T.a_lists_of T.d_lists_of ["balls"] (spD ⟨K, mg⟩ d_lists_of) :=
  def_ok (k := 3) T.F_lists_of sc_lists_of rfl rfl fun cdv A outer s H E hr g =>
    (dss_cons (ds_set (i := 1) sc_lists_of.nd rfl (by first | exact Or.inl rfl | exact Or.inr rfl) (de_val (fe_lst (da_cons (de_val (fe_lst da_nil)) (da_cons (de_val (fe_lst da_nil)) (da_cons (de_val (fe_lst da_nil)) da_nil))))))
    (dss_cons (ds_set (i := 2) sc_lists_of.nd rfl (by first | exact Or.inl rfl | exact Or.inr rfl) (de_cell (fe_lst da_nil)))
    (dss_cons (ds_for g (di_seq (de_var 0)) (dg_tp rfl (dgs_cons (dg_nm sc_lists_of.nd rfl (by first | exact Or.inl rfl | exact Or.inr rfl)) (dgs_cons (dg_nm sc_lists_of.nd rfl (by first | exact Or.inl rfl | exact Or.inr rfl)) dgs_nil))) (dss_cons (ds_set (i := 5) sc_lists_of.nd rfl (by first | exact Or.inl rfl | exact Or.inr rfl) (de_call g ((ok_chosen_for T).mono (by decide)) hr (by rfl) T.m_chosen_for T.F_chosen_for.kp T.b_chosen_for (da_cons (de_var 1) (da_cons (de_var 4) (da_cons (de_var 3) da_nil)))))
    (dss_cons (ds_set (i := 6) sc_lists_of.nd rfl (by first | exact Or.inl rfl | exact Or.inr rfl) (de_cell (fe_lst da_nil)))
    (dss_cons (ds_for g (di_rng1 (by rfl) T.z_range (da_cons (de_var 4) da_nil)) (dg_nm sc_lists_of.nd rfl (by first | exact Or.inl rfl | exact Or.inr rfl)) (dss_cons (ds_set (i := 8) sc_lists_of.nd rfl (by first | exact Or.inl rfl | exact Or.inr rfl) (de_ix (de_var 1) (de_bin ow_sub (de_bin ow_sub (de_var 4) (de_var 7)) de_int) (fun _ _ => rfl)))
    (dss_one (ds_expr (de_meth PySem.F.slot_list_append PySem.F.type_list_append ow_append (de_var 6) (da_cons (de_ite (dt_cmp ow_lt (de_ix (de_var 5) (de_var 7) (fun _ _ => rfl)) de_int (nomark _)) de_int (de_ix (de_ix (de_var 8) (de_ix (de_var 5) (de_var 7) (fun _ _ => rfl)) (fun _ _ => rfl)) de_int (fun _ _ => rfl))) da_nil))))))
    (dss_cons (ds_expr (de_meth PySem.F.slot_list_append PySem.F.type_list_append ow_append (de_var 2) (da_cons (de_callTy ow_tuple (by rfl) T.z_tuple b_tuple (da_cons (de_var 6) da_nil)) da_nil)))
    (dss_one (ds_set (i := 1) sc_lists_of.nd rfl (by first | exact Or.inl rfl | exact Or.inr rfl) (de_call g ((ok_grown T).mono (by decide)) hr (by rfl) T.m_grown T.F_grown.kp T.b_grown (da_cons (de_var 1) (da_cons (de_var 5) (da_cons (de_var 4) (da_cons (de_var 3) da_nil))))))))))))
    (dss_one (ds_ret (de_tup (da_cons (de_callTy ow_tuple (by rfl) T.z_tuple b_tuple (da_cons (de_val (fe_lc g sc_lists_of.nd (di_seq (de_var 1)) (blkOk_by (own := [("strings", 8)]) (by kernel_rfl)) (fun _ _ _ _ _ => (dg_nm sc_lists_of.nd rfl (by first | exact Or.inl rfl | exact Or.inr rfl))) (fun _ _ _ _ _ => dts_nil) (fun _ _ _ _ _ => (de_callTy ow_tuple (by rfl) T.z_tuple b_tuple (da_cons (de_val (fe_callB ow_sorted2 (by rfl) T.z_sorted b_sorted (da_cons (de_var 8) da_nil))) da_nil))) (by decide))) da_nil)) (da_cons (de_callTy ow_tuple (by rfl) T.z_tuple b_tuple (da_cons (de_var 2) da_nil)) da_nil))))))))
theorem ok_high_strings {P : Program} {w : World} {K : PySem.W.Frag} {mg : Str → Option Value} {base : Heap} (T : Txt P K mg) : FnOk P w K mg base (L2.CX P w) 5 T.a_high_strings T.d_high_strings ["w", "d"] (spD ⟨K, mg⟩ d_high_strings) :=
  def_ok (k := 4) T.F_high_strings sc_high_strings rfl rfl fun cdv A outer s H E hr g =>
    (dss_cons (ds_set (i := 2) sc_high_strings.nd rfl (by first | exact Or.inl rfl | exact Or.inr rfl) (de_call g ((ok_turned_ring T).mono (by decide)) hr (by rfl) T.m_turned_ring T.F_turned_ring.kp T.b_turned_ring (da_cons (de_var 0) (da_cons (de_var 1) da_nil))))
    (dss_one (ds_ret (de_ix (de_ix (de_call g ((ok_lists_of T).mono (by decide)) hr (by rfl) T.m_lists_of T.F_lists_of.kp T.b_lists_of (da_cons (de_val (fe_lc g sc_high_strings.nd (di_rng1 (by rfl) T.z_range (da_cons (de_callB ow_len (by rfl) T.z_len b_len (da_cons (de_var 2) da_nil)) da_nil)) (blkOk_by (own := [("x", 3)]) (by kernel_rfl)) (fun _ _ _ _ _ => (dg_nm sc_high_strings.nd rfl (by first | exact Or.inl rfl | exact Or.inr rfl))) (fun _ _ _ _ _ => (dts_one (dt_cmp (ow_eq hr.units) (de_ix (de_var 2) (de_var 3) (fun _ _ => rfl)) de_int (nomark _)))) (fun _ _ _ _ _ => (de_tup (da_cons (de_var 3) (da_cons de_int da_nil)))) (by decide))) da_nil)) de_int (fun _ _ => rfl)) de_int (fun _ _ => rfl)))))
theorem ok_angles {P : Program} {w : World} {K : PySem.W.Frag} {mg : Str → Option Value} {base : Heap} (T : Txt P K mg) : FnOk P w K mg base (L2.CX P w) 6 T.a_angles T.d_angles ["w"] (spD ⟨K, mg⟩ d_angles) :=
  def_ok (k := 5) T.F_angles sc_angles rfl rfl fun cdv A outer s H E hr g =>
    (dss_cons (ds_expr (de_call g ((ok_check_ring T).mono (by decide)) hr (by rfl) T.m_check_ring T.F_check_ring.kp T.b_check_ring (da_cons (de_var 0) da_nil)))
    (dss_cons (ds_set (i := 1) sc_angles.nd rfl (by first | exact Or.inl rfl | exact Or.inr rfl) (de_call g ((ok_least_turn T).mono (by decide)) hr (by rfl) T.m_least_turn T.F_least_turn.kp T.b_least_turn (da_cons (de_var 0) da_nil)))
    (dss_cons (ds_set (i := 2) sc_angles.nd rfl (by first | exact Or.inl rfl | exact Or.inr rfl) (de_call g ((ok_high_strings T).mono (by decide)) hr (by rfl) T.m_high_strings T.F_high_strings.kp T.b_high_strings (da_cons (de_var 0) (da_cons (de_var 1) da_nil))))
    (dss_cons (ds_set (i := 3) sc_angles.nd rfl (by first | exact Or.inl rfl | exact Or.inr rfl) (de_cell (fe_lst da_nil)))
    (dss_cons (ds_for g (di_seq (de_val (fe_ssetU g (by rfl) T.z_sorted (by rfl) T.z_set (de_val (fe_lc g sc_angles.nd (di_seq (de_var 2)) (blkOk_by (own := [("length", 5), ("_", 6)]) (by kernel_rfl)) (fun _ _ _ _ _ => (dg_tp rfl (dgs_cons (dg_nm sc_angles.nd rfl (by first | exact Or.inl rfl | exact Or.inr rfl)) (dgs_cons (dg_nm sc_angles.nd rfl (by first | exact Or.inl rfl | exact Or.inr rfl)) dgs_nil)))) (fun _ _ _ _ _ => dts_nil) (fun _ _ _ _ _ => (de_var 5)) (by decide)))))) (dg_nm sc_angles.nd rfl (by first | exact Or.inl rfl | exact Or.inr rfl)) (dss_one (ds_expr (de_meth PySem.F.slot_list_append PySem.F.type_list_append ow_append (de_var 3) (da_cons (de_tup (da_cons (de_var 4) (da_cons (de_callTy ow_tuple (by rfl) T.z_tuple b_tuple (da_cons (de_val (fe_lc g sc_angles.nd (di_seq (de_var 2)) (blkOk_by (own := [("length", 5), ("rigging", 7)]) (by kernel_rfl)) (fun _ _ _ _ _ => (dg_tp rfl (dgs_cons (dg_nm sc_angles.nd rfl (by first | exact Or.inl rfl | exact Or.inr rfl)) (dgs_cons (dg_nm sc_angles.nd rfl (by first | exact Or.inl rfl | exact Or.inr rfl)) dgs_nil)))) (fun _ _ _ _ _ => (dts_one (dt_cmp (ow_eq hr.units) (de_var 5) (de_var 4) (nomark _)))) (fun _ _ _ _ _ => (de_bin ow_add (de_var 7) (de_var 1))) (by decide))) da_nil)) da_nil))) da_nil)))))
    (dss_one (ds_ret (de_callTy ow_tuple (by rfl) T.z_tuple b_tuple (da_cons (de_var 3) da_nil)))))))))
theorem ok_law_state {P : Program} {w : World} {K : PySem.W.Frag} {mg : Str → Option Value} {base : Heap} (T : Txt P K mg) : FnOk P w K mg base (L2.CX P w) 1 T.a_law_state T.d_law_state ["script"] (spD ⟨K, mg⟩ d_law_state) :=
  def_ok (k := 0) T.F_law_state sc_law_state rfl rfl fun cdv A outer s H E hr g =>
    (dss_cons (ds_set (i := 1) sc_law_state.nd rfl (by first | exact Or.inl rfl | exact Or.inr rfl) de_int)
    (dss_cons (ds_set (i := 2) sc_law_state.nd rfl (by first | exact Or.inl rfl | exact Or.inr rfl) de_int)
    (dss_cons (ds_for g (di_seq (de_sl (de_var 0) dp_none (dp_some de_int))) (dg_nm sc_law_state.nd rfl (by first | exact Or.inl rfl | exact Or.inr rfl)) (dss_cons (ds_set (i := 1) sc_law_state.nd rfl (by first | exact Or.inl rfl | exact Or.inr rfl) (de_bin ow_add (de_bin ow_mul1 (de_var 1) de_int) (de_callB ow_abs (by rfl) T.z_abs b_abs (da_cons (de_var 3) da_nil))))
    (dss_one (ds_set (i := 2) sc_law_state.nd rfl (by first | exact Or.inl rfl | exact Or.inr rfl) (de_bin ow_mod (de_callTy ow_int (by rfl) T.z_int b_int (da_cons (de_bin ow_add (de_bin ow_mul1 (de_var 2) de_int) (de_var 3)) da_nil)) de_int)))))
    (dss_one (ds_ret (de_cell (fe_lst (da_cons (de_var 1) (da_cons (de_var 2) da_nil)))))))))
theorem ok_law_take {P : Program} {w : World} {K : PySem.W.Frag} {mg : Str → Option Value} {base : Heap} (T : Txt P K mg) : FnOk P w K mg base (L2.CX P w) 1 T.a_law_take T.d_law_take ["state", "m"] (spD ⟨K, mg⟩ d_law_take) :=
  def_ok (k := 0) T.F_law_take sc_law_take rfl rfl fun cdv A outer s H E hr g =>
    (dss_cons (ds_if (dt_cmp ow_gt (de_ix (de_var 0) de_int (fun _ _ => rfl)) de_int (nomark _)) (dss_cons (ds_set (i := 2) sc_law_take.nd rfl (by first | exact Or.inl rfl | exact Or.inr rfl) (de_bin ow_mod (de_callTy ow_int (by rfl) T.z_int b_int (da_cons (de_ix (de_var 0) de_int (fun _ _ => rfl)) da_nil)) (de_var 1)))
    (dss_cons (ds_sub (de_bin ow_div (de_ix (de_var 0) de_int (fun _ _ => rfl)) (de_var 1)) (de_var 0) de_int)
    (dss_one (ds_ret (de_var 2))))) dss_nil)
    (dss_cons (ds_sub (de_bin ow_mod (de_callTy ow_int (by rfl) T.z_int b_int (da_cons (de_bin ow_add (de_bin ow_mul1 (de_ix (de_var 0) de_int (fun _ _ => rfl)) de_int) de_int) da_nil)) de_int) (de_var 0) de_int)
    (dss_one (ds_ret (de_bin ow_mod (de_callTy ow_int (by rfl) T.z_int b_int (da_cons (de_bin ow_div (de_ix (de_var 0) de_int (fun _ _ => rfl)) de_int) da_nil)) (de_var 1))))))
theorem ok_law_plain {P : Program} {w : World} {K : PySem.W.Frag} {mg : Str → Option Value} {base : Heap} (T : Txt P K mg) : ∀ n : Nat, FnOk P w K mg base (L2.CX P w) (n + 1) T.a_law_plain T.d_law_plain ["value"] (spD ⟨K, mg⟩ (d_law_plain n))
  | 0 => fn_bad
  | n + 1 => by
    have ih : FnOk P w K mg base (L2.CX P w) (n + 1) T.a_law_plain T.d_law_plain ["value"] (spD ⟨K, mg⟩ (d_law_plain n)) := ok_law_plain T n
    exact def_ok (k := n + 1) T.F_law_plain sc_law_plain rfl rfl fun cdv A outer s H E hr g =>
      (dss_cons (ds_if (dt_tru (de_isi (by decide +kernel) (by rfl) T.z_isinstance (by rfl) T.z_tuple b_tuple (de_var 0))) (dss_one (ds_ret (de_callTy ow_tuple (by rfl) T.z_tuple b_tuple (da_cons (de_val (fe_lc g sc_law_plain.nd (di_seq (de_var 0)) (blkOk_by (own := [("item", 1)]) (by kernel_rfl)) (fun _ _ _ _ _ => (dg_nm sc_law_plain.nd rfl (by first | exact Or.inl rfl | exact Or.inr rfl))) (fun _ _ _ _ _ => dts_nil) (fun _ _ _ _ _ => (de_call (Gd.blk g _ _ _ _ _) (ih.mono (by omega)) hr (by rfl) T.m_law_plain T.F_law_plain.kp T.b_law_plain (da_cons (de_var 1) da_nil))) (by decide))) da_nil)))) dss_nil)
    (dss_cons (ds_if (dt_w (dw_or (dt_cmp ow_is (de_var 0) de_non (nomark _)) (dw_or (dt_tru (de_isi (by decide +kernel) (by rfl) T.z_isinstance (by rfl) T.z_str b_str (de_var 0))) (dw_or1 (dt_w (dw_and (dt_tru (de_isi (by decide +kernel) (by rfl) T.z_isinstance (by rfl) T.z_int b_int (de_var 0))) (dw_and1 (dt_not (dt_tru (de_isi (by decide +kernel) (by rfl) T.z_isinstance (by rfl) T.z_bool b_bool (de_var 0))))))))))) (dss_one (ds_ret (de_var 0))) dss_nil)
    (dss_one (ds_ret de_str))))
theorem ok_law_ring {P : Program} {w : World} {K : PySem.W.Frag} {mg : Str → Option Value} {base : Heap} (T : Txt P K mg) : FnOk P w K mg base (L2.CX P w) 2 T.a_law_ring T.d_law_ring ["state", "most"] (spD ⟨K, mg⟩ d_law_ring) :=
  def_ok (k := 1) T.F_law_ring sc_law_ring rfl rfl fun cdv A outer s H E hr g =>
    (dss_cons (ds_set (i := 2) sc_law_ring.nd rfl (by first | exact Or.inl rfl | exact Or.inr rfl) (de_bin ow_add de_int (de_call g ((ok_law_take T).mono (by decide)) hr (by rfl) T.m_law_take T.F_law_take.kp T.b_law_take (da_cons (de_var 0) (da_cons (de_var 1) da_nil)))))
    (dss_cons (ds_set (i := 3) sc_law_ring.nd rfl (by first | exact Or.inl rfl | exact Or.inr rfl) (de_cell (fe_lc g sc_law_ring.nd (di_rng1 (by rfl) T.z_range (da_cons (de_var 2) da_nil)) (blkOk_by (own := [("k", 4)]) (by kernel_rfl)) (fun _ _ _ _ _ => (dg_nm sc_law_ring.nd rfl (by first | exact Or.inl rfl | exact Or.inr rfl))) (fun _ _ _ _ _ => dts_nil) (fun _ _ _ _ _ => de_int) (by decide))))
    (dss_cons (ds_set (i := 5) sc_law_ring.nd rfl (by first | exact Or.inl rfl | exact Or.inr rfl) (de_un ow_neg de_int))
    (dss_cons (ds_for g (di_rng1 (by rfl) T.z_range (da_cons (de_call g ((ok_law_take T).mono (by decide)) hr (by rfl) T.m_law_take T.F_law_take.kp T.b_law_take (da_cons (de_var 0) (da_cons (de_bin ow_div (de_callTy ow_int (by rfl) T.z_int b_int (da_cons (de_bin ow_add (de_var 2) de_int) da_nil)) de_int) da_nil))) da_nil)) (dg_nm sc_law_ring.nd rfl (by first | exact Or.inl rfl | exact Or.inr rfl)) (dss_cons (ds_setLcV (i := 7) g sc_law_ring.nd rfl rfl (sw_true rfl rfl rfl (by decide +kernel)) (di_rng1 (by rfl) T.z_range (da_cons (de_var 2) da_nil)) (blkOk_by (own := [("k", 4)]) (by kernel_rfl)) (fun _ _ _ _ _ => (dg_nm sc_law_ring.nd rfl (by first | exact Or.inl rfl | exact Or.inr rfl))) (fun _ _ _ _ _ => (dts_one (dt_cmp (ow_eq hr.units) (de_ix (de_var 3) (de_var 4) (fun _ _ => rfl)) de_int (nomark _)))) (fun _ _ _ _ _ => (de_var 4)) (by decide))
    (dss_cons (ds_set (i := 8) sc_law_ring.nd rfl (by first | exact Or.inl rfl | exact Or.inr rfl) (de_ix (de_var 7) (de_call g ((ok_law_take T).mono (by decide)) hr (by rfl) T.m_law_take T.F_law_take.kp T.b_law_take (da_cons (de_var 0) (da_cons (de_callB ow_len (by rfl) T.z_len b_len (da_cons (de_var 7) da_nil)) da_nil))) (fun _ _ => rfl)))
    (dss_cons (ds_setLcV (i := 9) g sc_law_ring.nd rfl rfl (sw_true rfl rfl rfl (by decide +kernel)) (di_rng1 (by rfl) T.z_range (da_cons (de_var 2) da_nil)) (blkOk_by (own := [("k", 4)]) (by kernel_rfl)) (fun _ _ _ _ _ => (dg_nm sc_law_ring.nd rfl (by first | exact Or.inl rfl | exact Or.inr rfl))) (fun _ _ _ _ _ => (dts_one (dt_cmp (ow_eq hr.units) (de_ix (de_var 3) (de_bin ow_mod (de_callTy ow_int (by rfl) T.z_int b_int (da_cons (de_bin ow_add (de_bin ow_add (de_var 5) de_int) (de_var 4)) da_nil)) (de_var 2)) (fun _ _ => rfl)) de_int (nomark _)))) (fun _ _ _ _ _ => (de_bin ow_mod (de_callTy ow_int (by rfl) T.z_int b_int (da_cons (de_bin ow_add (de_bin ow_add (de_var 5) de_int) (de_var 4)) da_nil)) (de_var 2))) (by decide))
    (dss_cons (ds_if (dt_w (dw_and (dt_cmp ow_ge (de_var 5) de_int (nomark _)) (dw_and1 (dt_cmp ow_lt (de_call g ((ok_law_take T).mono (by decide)) hr (by rfl) T.m_law_take T.F_law_take.kp T.b_law_take (da_cons (de_var 0) (da_cons de_int da_nil))) de_int (nomark _))))) (dss_one (ds_set (i := 8) sc_law_ring.nd rfl (by first | exact Or.inl rfl | exact Or.inr rfl) (de_ix (de_var 9) de_int (fun _ _ => rfl)))) dss_nil)
    (dss_cons (ds_sub de_int (de_var 3) (de_var 8))
    (dss_one (ds_set (i := 5) sc_law_ring.nd rfl (by first | exact Or.inl rfl | exact Or.inr rfl) (de_var 8)))))))))
    (dss_one (ds_ret (de_callTy ow_tuple (by rfl) T.z_tuple b_tuple (da_cons (de_var 3) da_nil))))))))
theorem ok_law_turned {P : Program} {w : World} {K : PySem.W.Frag} {mg : Str → Option Value} {base : Heap} (T : Txt P K mg) : FnOk P w K mg base (L2.CX P w) 1 T.a_law_turned T.d_law_turned ["w", "d"] (spD ⟨K, mg⟩ d_law_turned) :=
  def_ok (k := 0) T.F_law_turned sc_law_turned rfl rfl fun cdv A outer s H E hr g =>
    (dss_one (ds_ret (de_callTy ow_tuple (by rfl) T.z_tuple b_tuple (da_cons (de_val (fe_lc g sc_law_turned.nd (di_rng1 (by rfl) T.z_range (da_cons (de_callB ow_len (by rfl) T.z_len b_len (da_cons (de_var 0) da_nil)) da_nil)) (blkOk_by (own := [("x", 2)]) (by kernel_rfl)) (fun _ _ _ _ _ => (dg_nm sc_law_turned.nd rfl (by first | exact Or.inl rfl | exact Or.inr rfl))) (fun _ _ _ _ _ => dts_nil) (fun _ _ _ _ _ => (de_ix (de_var 0) (de_bin ow_mod (de_callTy ow_int (by rfl) T.z_int b_int (da_cons (de_bin ow_add (de_var 2) (de_var 1)) da_nil)) (de_callB ow_len (by rfl) T.z_len b_len (da_cons (de_var 0) da_nil))) (fun _ _ => rfl))) (by decide))) da_nil))))
theorem ok_law_is_high {P : Program} {w : World} {K : PySem.W.Frag} {mg : Str → Option Value} {base : Heap} (T : Txt P K mg) : FnOk P w K mg base (L2.CX P w) 1 T.a_law_is_high T.d_law_is_high ["w"] (spD ⟨K, mg⟩ d_law_is_high) :=
  def_ok (k := 0) T.F_law_is_high sc_law_is_high rfl rfl fun cdv A outer s H E hr g =>
    (dss_cons (ds_set (i := 1) sc_law_is_high.nd rfl (by first | exact Or.inl rfl | exact Or.inr rfl) de_int)
    (dss_cons (ds_for g (di_seq (de_var 0)) (dg_nm sc_law_is_high.nd rfl (by first | exact Or.inl rfl | exact Or.inr rfl)) (dss_cons (ds_set (i := 1) sc_law_is_high.nd rfl (by first | exact Or.inl rfl | exact Or.inr rfl) (de_bin ow_sub (de_bin ow_add (de_var 1) de_int) (de_bin ow_mul1 de_int (de_var 2))))
    (dss_one (ds_if (dt_cmp ow_lt (de_var 1) de_int (nomark _)) (dss_one (ds_ret de_bl)) dss_nil))))
    (dss_one (ds_ret de_bl))))
theorem ok_law_shape {P : Program} {w : World} {K : PySem.W.Frag} {mg : Str → Option Value} {base : Heap} (T : Txt P K mg) : FnOk P w K mg base (L2.CX P w) 1 T.a_law_shape T.d_law_shape ["w"] (spD ⟨K, mg⟩ d_law_shape) :=
  def_ok (k := 0) T.F_law_shape sc_law_shape rfl rfl fun cdv A outer s H E hr g =>
    (dss_cons (ds_parC (da_cons (de_val (fe_callTy ow_list (by rfl) T.z_list b_list (da_cons (de_var 0) da_nil))) (da_cons (de_cell (fe_lst da_nil)) da_nil)) (dg_tp rfl (dgs_cons (dg_nm sc_law_shape.nd rfl (by first | exact Or.inl rfl | exact Or.inr rfl)) (dgs_cons (dg_nm sc_law_shape.nd rfl (by first | exact Or.inl rfl | exact Or.inr rfl)) dgs_nil))))
    (dss_cons (ds_while g (dt_cmp ow_in de_int (de_var 1) (by rfl)) (dss_cons (ds_set (i := 3) sc_law_shape.nd rfl (by first | exact Or.inl rfl | exact Or.inr rfl) (de_callB ow_len (by rfl) T.z_len b_len (da_cons (de_var 1) da_nil)))
    (dss_cons (ds_setLcV (i := 4) g sc_law_shape.nd rfl rfl (sw_true rfl rfl rfl (by decide +kernel)) (di_rng1 (by rfl) T.z_range (da_cons (de_var 3) da_nil)) (blkOk_by (own := [("k", 5)]) (by kernel_rfl)) (fun _ _ _ _ _ => (dg_nm sc_law_shape.nd rfl (by first | exact Or.inl rfl | exact Or.inr rfl))) (fun _ _ _ _ _ => (dts_one (dt_w (dw_and (dt_cmp (ow_eq hr.units) (de_ix (de_var 1) (de_var 5) (fun _ _ => rfl)) de_int (nomark _)) (dw_and1 (dt_cmp (ow_eq hr.units) (de_ix (de_var 1) (de_bin ow_mod (de_callTy ow_int (by rfl) T.z_int b_int (da_cons (de_bin ow_add (de_var 5) de_int) da_nil)) (de_var 3)) (fun _ _ => rfl)) de_int (nomark _))))))) (fun _ _ _ _ _ => (de_var 5)) (by decide))
    (dss_cons (ds_set (i := 6) sc_law_shape.nd rfl (by first | exact Or.inl rfl | exact Or.inr rfl) (de_bin ow_add (de_var 4) (de_val (fe_lc g sc_law_shape.nd (di_seq (de_var 4)) (blkOk_by (own := [("k", 5)]) (by kernel_rfl)) (fun _ _ _ _ _ => (dg_nm sc_law_shape.nd rfl (by first | exact Or.inl rfl | exact Or.inr rfl))) (fun _ _ _ _ _ => dts_nil) (fun _ _ _ _ _ => (de_bin ow_mod (de_callTy ow_int (by rfl) T.z_int b_int (da_cons (de_bin ow_add (de_var 5) de_int) da_nil)) (de_var 3))) (by decide)))))
    (dss_cons (ds_set (i := 1) sc_law_shape.nd rfl (by first | exact Or.inl rfl | exact Or.inr rfl) (de_val (fe_lc g sc_law_shape.nd (di_rng1 (by rfl) T.z_range (da_cons (de_var 3) da_nil)) (blkOk_by (own := [("k", 5)]) (by kernel_rfl)) (fun _ _ _ _ _ => (dg_nm sc_law_shape.nd rfl (by first | exact Or.inl rfl | exact Or.inr rfl))) (fun _ _ _ _ _ => (dts_one (dt_cmp ow_notIn (de_var 5) (de_var 6) (by rfl)))) (fun _ _ _ _ _ => (de_ix (de_var 1) (de_var 5) (fun _ _ => rfl))) (by decide))))
    (dss_one (ds_expr (de_meth PySem.F.slot_list_append PySem.F.type_list_append ow_append (de_var 2) (da_cons (de_callB ow_len (by rfl) T.z_len b_len (da_cons (de_var 4) da_nil)) da_nil)))))))))
    (dss_one (ds_ret (de_callTy ow_tuple (by rfl) T.z_tuple b_tuple (da_cons (de_val (fe_lc g sc_law_shape.nd (di_rng1 (by rfl) T.z_range (da_cons (de_callB (ow_max rfl) (by rfl) T.z_max b_max (da_cons (de_bin ow_add (de_var 2) (de_val (fe_lst (da_cons de_int da_nil)))) da_nil)) da_nil)) (blkOk_by (own := [("i", 8)]) (by kernel_rfl)) (fun _ _ _ _ _ => (dg_nm sc_law_shape.nd rfl (by first | exact Or.inl rfl | exact Or.inr rfl))) (fun _ _ _ _ _ => dts_nil) (fun _ _ _ _ _ => (de_callB ow_len (by rfl) T.z_len b_len (da_cons (de_val (fe_lc (Gd.blk g _ _ _ _ _) sc_law_shape.nd (di_seq (de_var 2)) (blkOk_by (own := [("c", 7)]) (by kernel_rfl)) (fun _ _ _ _ _ => (dg_nm sc_law_shape.nd rfl (by first | exact Or.inl rfl | exact Or.inr rfl))) (fun _ _ _ _ _ => (dts_one (dt_cmp ow_gt (de_var 7) (de_var 8) (nomark _)))) (fun _ _ _ _ _ => (de_var 7)) (by decide))) da_nil))) (by decide))) da_nil))))))
theorem ok_law_vacancy {P : Program} {w : World} {K : PySem.W.Frag} {mg : Str → Option Value} {base : Heap} (T : Txt P K mg) : FnOk P w K mg base (L2.CX P w) 1 T.a_law_vacancy T.d_law_vacancy ["shape", "size", "k"] (spD ⟨K, mg⟩ d_law_vacancy) :=
  def_ok (k := 0) T.F_law_vacancy sc_law_vacancy rfl rfl fun cdv A outer s H E hr g =>
    (dss_one (ds_ret (de_bin ow_sub (de_var 1) (de_bin ow_mul1 de_int (de_callB (ow_sum rfl) (by rfl) T.z_sum b_sum (da_cons (de_val (fe_lc g sc_law_vacancy.nd (di_seq (de_var 0)) (blkOk_by (own := [("part", 3)]) (by kernel_rfl)) (fun _ _ _ _ _ => (dg_nm sc_law_vacancy.nd rfl (by first | exact Or.inl rfl | exact Or.inr rfl))) (fun _ _ _ _ _ => dts_nil) (fun _ _ _ _ _ => (de_callB (ow_min2 rfl hr.units) (by rfl) T.z_min b_min (da_cons (de_var 2) (da_cons (de_var 3) da_nil)))) (by decide))) da_nil))))))
theorem ok_law_strings {P : Program} {w : World} {K : PySem.W.Frag} {mg : Str → Option Value} {base : Heap} (T : Txt P K mg) : FnOk P w K mg base (L2.CX P w) 1 T.a_law_strings T.d_law_strings ["w"] (spD ⟨K, mg⟩ d_law_strings) :=
  def_ok (k := 0) T.F_law_strings sc_law_strings rfl rfl fun cdv A outer s H E hr g =>
    (dss_cons (ds_set (i := 1) sc_law_strings.nd rfl (by first | exact Or.inl rfl | exact Or.inr rfl) (de_cell (fe_lst da_nil)))
    (dss_cons (ds_for g (di_rng1 (by rfl) T.z_range (da_cons (de_callB ow_len (by rfl) T.z_len b_len (da_cons (de_var 0) da_nil)) da_nil)) (dg_nm sc_law_strings.nd rfl (by first | exact Or.inl rfl | exact Or.inr rfl)) (dss_one (ds_if (dt_cmp (ow_eq hr.units) (de_ix (de_var 0) (de_var 2) (fun _ _ => rfl)) de_int (nomark _)) (dss_cons (ds_asg (de_tup (da_cons (de_un ow_neg de_int) (da_cons de_int da_nil))) (dg_tp rfl (dgs_cons (dg_nm sc_law_strings.nd rfl (by first | exact Or.inl rfl | exact Or.inr rfl)) (dgs_cons (dg_nm sc_law_strings.nd rfl (by first | exact Or.inl rfl | exact Or.inr rfl)) dgs_nil))))
    (dss_cons (ds_for g (di_rng1 (by rfl) T.z_range (da_cons (de_callB ow_len (by rfl) T.z_len b_len (da_cons (de_var 1) da_nil)) da_nil)) (dg_nm sc_law_strings.nd rfl (by first | exact Or.inl rfl | exact Or.inr rfl)) (dss_cons (ds_set (i := 6) sc_law_strings.nd rfl (by first | exact Or.inl rfl | exact Or.inr rfl) (de_cmp (ow_eq hr.units) (de_ix (de_ix (de_var 1) (de_var 5) (fun _ _ => rfl)) de_int (fun _ _ => rfl)) (de_bin ow_sub (de_var 2) (de_bin ow_mul1 de_int (de_callB (ow_sum rfl) (by rfl) T.z_sum b_sum (da_cons (de_val (fe_lc g sc_law_strings.nd (di_seq (de_var 1)) (blkOk_by (own := [("s", 7)]) (by kernel_rfl)) (fun _ _ _ _ _ => (dg_nm sc_law_strings.nd rfl (by first | exact Or.inl rfl | exact Or.inr rfl))) (fun _ _ _ _ _ => dts_nil) (fun _ _ _ _ _ => (de_callB (ow_min2 rfl hr.units) (by rfl) T.z_min b_min (da_cons (de_ix (de_ix (de_var 1) (de_var 5) (fun _ _ => rfl)) de_int (fun _ _ => rfl)) (da_cons (de_ix (de_var 7) de_int (fun _ _ => rfl)) da_nil)))) (by decide))) da_nil)))) (nomark _)))
    (dss_one (ds_if (dt_w (dw_and (dt_tru (de_var 6)) (dw_and1 (dt_w (dw_or (dt_cmp ow_lt (de_var 3) de_int (nomark _)) (dw_or1 (dt_cmp ow_gt (de_ix (de_ix (de_var 1) (de_var 5) (fun _ _ => rfl)) de_int (fun _ _ => rfl)) (de_ix (de_ix (de_var 1) (de_var 3) (fun _ _ => rfl)) de_int (fun _ _ => rfl)) (nomark _)))))))) (dss_one (ds_set (i := 3) sc_law_strings.nd rfl (by first | exact Or.inl rfl | exact Or.inr rfl) (de_var 5))) dss_nil))))
    (dss_cons (ds_if (dt_cmp ow_ge (de_var 3) de_int (nomark _)) (dss_one (ds_set (i := 4) sc_law_strings.nd rfl (by first | exact Or.inl rfl | exact Or.inr rfl) (de_bin ow_add (de_ix (de_meth PySem.F.slot_list_pop PySem.F.type_list_pop ow_pop (de_var 1) (da_cons (de_var 3) da_nil)) de_int (fun _ _ => rfl)) de_int))) dss_nil)
    (dss_cons (ds_expr (de_meth PySem.F.slot_list_append PySem.F.type_list_append ow_append (de_var 1) (da_cons (de_tup (da_cons (de_var 4) (da_cons de_int da_nil))) da_nil)))
    (dss_one (ds_sub (de_tup (da_cons (de_var 4) (da_cons (de_bin ow_sub (de_bin ow_add (de_var 2) de_int) (de_bin ow_mul1 de_int (de_callB (ow_sum rfl) (by rfl) T.z_sum b_sum (da_cons (de_val (fe_lc g sc_law_strings.nd (di_seq (de_var 1)) (blkOk_by (own := [("s", 7)]) (by kernel_rfl)) (fun _ _ _ _ _ => (dg_nm sc_law_strings.nd rfl (by first | exact Or.inl rfl | exact Or.inr rfl))) (fun _ _ _ _ _ => dts_nil) (fun _ _ _ _ _ => (de_callB (ow_min2 rfl hr.units) (by rfl) T.z_min b_min (da_cons (de_var 4) (da_cons (de_ix (de_var 7) de_int (fun _ _ => rfl)) da_nil)))) (by decide))) da_nil)))) da_nil))) (de_var 1) (de_un ow_neg de_int))))))) dss_nil)))
    (dss_one (ds_ret (de_val (fe_callB ow_sorted2 (by rfl) T.z_sorted b_sorted (da_cons (de_var 1) da_nil)))))))
theorem ok_law_angles {P : Program} {w : World} {K : PySem.W.Frag} {mg : Str → Option Value} {base : Heap} (T : Txt P K mg) : FnOk P w K mg base (L2.CX P w) 2 T.a_law_angles T.d_law_angles ["w"] (spD ⟨K, mg⟩ d_law_angles) :=
  def_ok (k := 1) T.F_law_angles sc_law_angles rfl rfl fun cdv A outer s H E hr g =>
    (dss_cons (ds_set (i := 1) sc_law_angles.nd rfl (by first | exact Or.inl rfl | exact Or.inr rfl) de_int)
    (dss_cons (ds_while g (dt_not (dt_tru (de_call g ((ok_law_is_high T).mono (by decide)) hr (by rfl) T.m_law_is_high T.F_law_is_high.kp T.b_law_is_high (da_cons (de_call g ((ok_law_turned T).mono (by decide)) hr (by rfl) T.m_law_turned T.F_law_turned.kp T.b_law_turned (da_cons (de_var 0) (da_cons (de_var 1) da_nil))) da_nil)))) (dss_one (ds_set (i := 1) sc_law_angles.nd rfl (by first | exact Or.inl rfl | exact Or.inr rfl) (de_bin ow_add (de_var 1) de_int))))
    (dss_cons (ds_set (i := 2) sc_law_angles.nd rfl (by first | exact Or.inl rfl | exact Or.inr rfl) (de_call g ((ok_law_strings T).mono (by decide)) hr (by rfl) T.m_law_strings T.F_law_strings.kp T.b_law_strings (da_cons (de_call g ((ok_law_turned T).mono (by decide)) hr (by rfl) T.m_law_turned T.F_law_turned.kp T.b_law_turned (da_cons (de_var 0) (da_cons (de_var 1) da_nil))) da_nil)))
    (dss_cons (ds_set (i := 3) sc_law_angles.nd rfl (by first | exact Or.inl rfl | exact Or.inr rfl) (de_val (fe_ssetU g (by rfl) T.z_sorted (by rfl) T.z_set (de_val (fe_lc g sc_law_angles.nd (di_seq (de_var 2)) (blkOk_by (own := [("k", 4), ("j", 5)]) (by kernel_rfl)) (fun _ _ _ _ _ => (dg_tp rfl (dgs_cons (dg_nm sc_law_angles.nd rfl (by first | exact Or.inl rfl | exact Or.inr rfl)) (dgs_cons (dg_nm sc_law_angles.nd rfl (by first | exact Or.inl rfl | exact Or.inr rfl)) dgs_nil)))) (fun _ _ _ _ _ => dts_nil) (fun _ _ _ _ _ => (de_var 4)) (by decide))))))
    (dss_one (ds_ret (de_callTy ow_tuple (by rfl) T.z_tuple b_tuple (da_cons (de_val (fe_lc g sc_law_angles.nd (di_seq (de_var 3)) (blkOk_by (own := [("k", 4)]) (by kernel_rfl)) (fun _ _ _ _ _ => (dg_nm sc_law_angles.nd rfl (by first | exact Or.inl rfl | exact Or.inr rfl))) (fun _ _ _ _ _ => dts_nil) (fun _ _ _ _ _ => (de_tup (da_cons (de_var 4) (da_cons (de_callTy ow_tuple (by rfl) T.z_tuple b_tuple (da_cons (de_val (fe_lc (Gd.blk g _ _ _ _ _) sc_law_angles.nd (di_seq (de_var 2)) (blkOk_by (own := [("i", 6), ("j", 5)]) (by kernel_rfl)) (fun _ _ _ _ _ => (dg_tp rfl (dgs_cons (dg_nm sc_law_angles.nd rfl (by first | exact Or.inl rfl | exact Or.inr rfl)) (dgs_cons (dg_nm sc_law_angles.nd rfl (by first | exact Or.inl rfl | exact Or.inr rfl)) dgs_nil)))) (fun _ _ _ _ _ => (dts_one (dt_cmp (ow_eq hr.units) (de_var 6) (de_var 4) (nomark _)))) (fun _ _ _ _ _ => (de_bin ow_add (de_var 5) (de_var 1))) (by decide))) da_nil)) da_nil)))) (by decide))) da_nil))))))))
theorem ok_law_lengths {P : Program} {w : World} {K : PySem.W.Frag} {mg : Str → Option Value} {base : Heap} (T : Txt P K mg) : FnOk P w K mg base (L2.CX P w) 1 T.a_law_lengths T.d_law_lengths ["rounds"] (spD ⟨K, mg⟩ d_law_lengths) :=
  def_ok (k := 0) T.F_law_lengths sc_law_lengths rfl rfl fun cdv A outer s H E hr g =>
    (dss_cons (ds_set (i := 1) sc_law_lengths.nd rfl (by first | exact Or.inl rfl | exact Or.inr rfl) (de_val (fe_lst da_nil)))
    (dss_cons (ds_for g (di_seq (de_var 0)) (dg_tp rfl (dgs_cons (dg_nm sc_law_lengths.nd rfl (by first | exact Or.inl rfl | exact Or.inr rfl)) (dgs_cons (dg_nm sc_law_lengths.nd rfl (by first | exact Or.inl rfl | exact Or.inr rfl)) dgs_nil))) (dss_one (ds_set (i := 1) sc_law_lengths.nd rfl (by first | exact Or.inl rfl | exact Or.inr rfl) (de_bin ow_add (de_val (fe_lc g sc_law_lengths.nd (di_seq (de_var 3)) (blkOk_by (own := [("item", 4)]) (by kernel_rfl)) (fun _ _ _ _ _ => (dg_nm sc_law_lengths.nd rfl (by first | exact Or.inl rfl | exact Or.inr rfl))) (fun _ _ _ _ _ => dts_nil) (fun _ _ _ _ _ => (de_var 2)) (by decide))) (de_var 1)))))
    (dss_one (ds_ret (de_callTy ow_tuple (by rfl) T.z_tuple b_tuple (da_cons (de_var 1) da_nil))))))
theorem ok_law {P : Program} {w : World} {K : PySem.W.Frag} {mg : Str → Option Value} {base : Heap} (T : Txt P K mg) : FnOk P w K mg base (L2.CX P w) 10 T.a_law T.d_law ["script"] (spD ⟨K, mg⟩ d_law) :=
  def_ok (k := 9) T.F_law sc_law rfl rfl fun cdv A outer s H E hr g =>
    (dss_cons (ds_set (i := 1) sc_law.nd rfl (by first | exact Or.inl rfl | exact Or.inr rfl) (de_call g ((ok_law_state T).mono (by decide)) hr (by rfl) T.m_law_state T.F_law_state.kp T.b_law_state (da_cons (de_var 0) da_nil)))
    (dss_cons (ds_set (i := 2) sc_law.nd rfl (by first | exact Or.inl rfl | exact Or.inr rfl) (de_call g ((ok_law_ring T).mono (by decide)) hr (by rfl) T.m_law_ring T.F_law_ring.kp T.b_law_ring (da_cons (de_var 1) (da_cons de_int da_nil))))
    (dss_cons (ds_set (i := 3) sc_law.nd rfl (by first | exact Or.inl rfl | exact Or.inr rfl) (de_call g ((ok_law_angles T).mono (by decide)) hr (by rfl) T.m_law_angles T.F_law_angles.kp T.b_law_angles (da_cons (de_var 2) da_nil)))
    (dss_cons (ds_if (dt_w (dw_or (dt_cmp (ow_ne hr.units) (de_call g ((ok_law_plain T 8).mono (by decide)) hr (by rfl) T.m_law_plain T.F_law_plain.kp T.b_law_plain (da_cons (de_call g ((ok_angles T).mono (by decide)) hr (by rfl) T.m_angles T.F_angles.kp T.b_angles (da_cons (de_var 2) da_nil)) da_nil)) (de_var 3) (nomark _)) (dw_or1 (dt_cmp ow_isNot (de_call g ((ok_are_rounds T).mono (by decide)) hr (by rfl) T.m_are_rounds T.F_are_rounds.kp T.b_are_rounds (da_cons (de_var 3) (da_cons (de_callB ow_len (by rfl) T.z_len b_len (da_cons (de_var 2) da_nil)) da_nil))) de_bl (nomark _))))) (dss_one (ds_ret de_bl)) dss_nil)
    (dss_cons (ds_set (i := 4) sc_law.nd rfl (by first | exact Or.inl rfl | exact Or.inr rfl) (de_call g ((ok_law_lengths T).mono (by decide)) hr (by rfl) T.m_law_lengths T.F_law_lengths.kp T.b_law_lengths (da_cons (de_var 3) da_nil)))
    (dss_cons (ds_if (dt_w (dw_or (dt_cmp (ow_ne hr.units) (de_var 4) (de_call g ((ok_law_shape T).mono (by decide)) hr (by rfl) T.m_law_shape T.F_law_shape.kp T.b_law_shape (da_cons (de_var 2) da_nil)) (nomark _)) (dw_or1 (dt_cmp ow_isNot (de_call g ((ok_is_shape T).mono (by decide)) hr (by rfl) T.m_is_shape T.F_is_shape.kp T.b_is_shape (da_cons (de_var 4) (da_cons (de_callB ow_len (by rfl) T.z_len b_len (da_cons (de_var 2) da_nil)) da_nil))) de_bl (nomark _))))) (dss_one (ds_ret de_bl)) dss_nil)
    (dss_cons (ds_for g (di_seq (de_val (fe_lst (da_cons de_int (da_cons de_int (da_cons de_int (da_cons de_int (da_cons de_int (da_cons (de_bin ow_add de_int (de_call g ((ok_law_take T).mono (by decide)) hr (by rfl) T.m_law_take T.F_law_take.kp T.b_law_take (da_cons (de_var 1) (da_cons de_int da_nil)))) da_nil))))))))) (dg_nm sc_law.nd rfl (by first | exact Or.inl rfl | exact Or.inr rfl)) (dss_one (ds_if (dt_cmp (ow_ne hr.units) (de_call g ((ok_law_plain T 8).mono (by decide)) hr (by rfl) T.m_law_plain T.F_law_plain.kp T.b_law_plain (da_cons (de_call g ((ok_vacancy_of_ring T).mono (by decide)) hr (by rfl) T.m_vacancy_of_ring T.F_vacancy_of_ring.kp T.b_vacancy_of_ring (da_cons (de_var 4) (da_cons (de_callB ow_len (by rfl) T.z_len b_len (da_cons (de_var 2) da_nil)) (da_cons (de_var 5) da_nil)))) da_nil)) (de_call g ((ok_law_vacancy T).mono (by decide)) hr (by rfl) T.m_law_vacancy T.F_law_vacancy.kp T.b_law_vacancy (da_cons (de_var 4) (da_cons (de_callB ow_len (by rfl) T.z_len b_len (da_cons (de_var 2) da_nil)) (da_cons (de_var 5) da_nil)))) (nomark _)) (dss_one (ds_ret de_bl)) dss_nil)))
    (dss_cons (ds_for g (di_rng1 (by rfl) T.z_range (da_cons (de_callB ow_len (by rfl) T.z_len b_len (da_cons (de_var 2) da_nil)) da_nil)) (dg_nm sc_law.nd rfl (by first | exact Or.inl rfl | exact Or.inr rfl)) (dss_cons (ds_set (i := 7) sc_law.nd rfl (by first | exact Or.inl rfl | exact Or.inr rfl) (de_call g ((ok_law_turned T).mono (by decide)) hr (by rfl) T.m_law_turned T.F_law_turned.kp T.b_law_turned (da_cons (de_var 2) (da_cons (de_var 6) da_nil))))
    (dss_one (ds_if (dt_w (dw_and (dt_tru (de_call g ((ok_law_is_high T).mono (by decide)) hr (by rfl) T.m_law_is_high T.F_law_is_high.kp T.b_law_is_high (da_cons (de_var 7) da_nil))) (dw_and1 (dt_cmp (ow_ne hr.units) (de_call g ((ok_law_plain T 8).mono (by decide)) hr (by rfl) T.m_law_plain T.F_law_plain.kp T.b_law_plain (da_cons (de_call g ((ok_angles T).mono (by decide)) hr (by rfl) T.m_angles T.F_angles.kp T.b_angles (da_cons (de_var 7) da_nil)) da_nil)) (de_call g ((ok_law_angles T).mono (by decide)) hr (by rfl) T.m_law_angles T.F_law_angles.kp T.b_law_angles (da_cons (de_var 7) da_nil)) (nomark _))))) (dss_one (ds_ret de_bl)) dss_nil))))
    (dss_one (ds_ret de_bl))))))))))
/-! the facts from the top -/
def txt_mk {P : Program} {K : PySem.W.Frag} {h : Heap} {mg : Str → Option Value} (X : K.In h) (G : h.Ns mainGlobals mg)
    {f_is_integer : Addr} {od_is_integer an_is_integer : Option Addr} {sl_is_integer : Array (Option Value)} {oc_is_integer kV_is_integer dc_is_integer pm_is_integer cd_is_integer ct_is_integer : Value}
    {f_is_partition : Addr} {od_is_partition an_is_partition : Option Addr} {sl_is_partition : Array (Option Value)} {oc_is_partition kV_is_partition dc_is_partition pm_is_partition cd_is_partition ct_is_partition : Value}
    {f_is_shape : Addr} {od_is_shape an_is_shape : Option Addr} {sl_is_shape : Array (Option Value)} {oc_is_shape kV_is_shape dc_is_shape pm_is_shape cd_is_shape ct_is_shape : Value}
    {f_boxes_to : Addr} {od_boxes_to an_boxes_to : Option Addr} {sl_boxes_to : Array (Option Value)} {oc_boxes_to kV_boxes_to dc_boxes_to pm_boxes_to cd_boxes_to ct_boxes_to : Value}
    {f_check_shape : Addr} {od_check_shape an_check_shape : Option Addr} {sl_check_shape : Array (Option Value)} {oc_check_shape kV_check_shape dc_check_shape pm_check_shape cd_check_shape ct_check_shape : Value}
    {f_vacancy_of_ring : Addr} {od_vacancy_of_ring an_vacancy_of_ring : Option Addr} {sl_vacancy_of_ring : Array (Option Value)} {oc_vacancy_of_ring kV_vacancy_of_ring dc_vacancy_of_ring pm_vacancy_of_ring cd_vacancy_of_ring ct_vacancy_of_ring : Value}
    {f_is_round : Addr} {od_is_round an_is_round : Option Addr} {sl_is_round : Array (Option Value)} {oc_is_round kV_is_round dc_is_round pm_is_round cd_is_round ct_is_round : Value}
    {f_shape_of_rounds : Addr} {od_shape_of_rounds an_shape_of_rounds : Option Addr} {sl_shape_of_rounds : Array (Option Value)} {oc_shape_of_rounds kV_shape_of_rounds dc_shape_of_rounds pm_shape_of_rounds cd_shape_of_rounds ct_shape_of_rounds : Value}
    {f_are_rounds : Addr} {od_are_rounds an_are_rounds : Option Addr} {sl_are_rounds : Array (Option Value)} {oc_are_rounds kV_are_rounds dc_are_rounds pm_are_rounds cd_are_rounds ct_are_rounds : Value}
    {f_is_ring : Addr} {od_is_ring an_is_ring : Option Addr} {sl_is_ring : Array (Option Value)} {oc_is_ring kV_is_ring dc_is_ring pm_is_ring cd_is_ring ct_is_ring : Value}
    {f_check_ring : Addr} {od_check_ring an_check_ring : Option Addr} {sl_check_ring : Array (Option Value)} {oc_check_ring kV_check_ring dc_check_ring pm_check_ring cd_check_ring ct_check_ring : Value}
    {f_turned_ring : Addr} {od_turned_ring an_turned_ring : Option Addr} {sl_turned_ring : Array (Option Value)} {oc_turned_ring kV_turned_ring dc_turned_ring pm_turned_ring cd_turned_ring ct_turned_ring : Value}
    {f_is_high : Addr} {od_is_high an_is_high : Option Addr} {sl_is_high : Array (Option Value)} {oc_is_high kV_is_high dc_is_high pm_is_high cd_is_high ct_is_high : Value}
    {f_least_turn : Addr} {od_least_turn an_least_turn : Option Addr} {sl_least_turn : Array (Option Value)} {oc_least_turn kV_least_turn dc_least_turn pm_least_turn cd_least_turn ct_least_turn : Value}
    {f_vacancy : Addr} {od_vacancy an_vacancy : Option Addr} {sl_vacancy : Array (Option Value)} {oc_vacancy kV_vacancy dc_vacancy pm_vacancy cd_vacancy ct_vacancy : Value}
    {f_lengths_in : Addr} {od_lengths_in an_lengths_in : Option Addr} {sl_lengths_in : Array (Option Value)} {oc_lengths_in kV_lengths_in dc_lengths_in pm_lengths_in cd_lengths_in ct_lengths_in : Value}
    {f_chosen_for : Addr} {od_chosen_for an_chosen_for : Option Addr} {sl_chosen_for : Array (Option Value)} {oc_chosen_for kV_chosen_for dc_chosen_for pm_chosen_for cd_chosen_for ct_chosen_for : Value}
    {f_grown : Addr} {od_grown an_grown : Option Addr} {sl_grown : Array (Option Value)} {oc_grown kV_grown dc_grown pm_grown cd_grown ct_grown : Value}
    {f_lists_of : Addr} {od_lists_of an_lists_of : Option Addr} {sl_lists_of : Array (Option Value)} {oc_lists_of kV_lists_of dc_lists_of pm_lists_of cd_lists_of ct_lists_of : Value}
    {f_high_strings : Addr} {od_high_strings an_high_strings : Option Addr} {sl_high_strings : Array (Option Value)} {oc_high_strings kV_high_strings dc_high_strings pm_high_strings cd_high_strings ct_high_strings : Value}
    {f_angles : Addr} {od_angles an_angles : Option Addr} {sl_angles : Array (Option Value)} {oc_angles kV_angles dc_angles pm_angles cd_angles ct_angles : Value}
    {f_law_state : Addr} {od_law_state an_law_state : Option Addr} {sl_law_state : Array (Option Value)} {oc_law_state kV_law_state dc_law_state pm_law_state cd_law_state ct_law_state : Value}
    {f_law_take : Addr} {od_law_take an_law_take : Option Addr} {sl_law_take : Array (Option Value)} {oc_law_take kV_law_take dc_law_take pm_law_take cd_law_take ct_law_take : Value}
    {f_law_plain : Addr} {od_law_plain an_law_plain : Option Addr} {sl_law_plain : Array (Option Value)} {oc_law_plain kV_law_plain dc_law_plain pm_law_plain cd_law_plain ct_law_plain : Value}
    {f_law_ring : Addr} {od_law_ring an_law_ring : Option Addr} {sl_law_ring : Array (Option Value)} {oc_law_ring kV_law_ring dc_law_ring pm_law_ring cd_law_ring ct_law_ring : Value}
    {f_law_turned : Addr} {od_law_turned an_law_turned : Option Addr} {sl_law_turned : Array (Option Value)} {oc_law_turned kV_law_turned dc_law_turned pm_law_turned cd_law_turned ct_law_turned : Value}
    {f_law_is_high : Addr} {od_law_is_high an_law_is_high : Option Addr} {sl_law_is_high : Array (Option Value)} {oc_law_is_high kV_law_is_high dc_law_is_high pm_law_is_high cd_law_is_high ct_law_is_high : Value}
    {f_law_shape : Addr} {od_law_shape an_law_shape : Option Addr} {sl_law_shape : Array (Option Value)} {oc_law_shape kV_law_shape dc_law_shape pm_law_shape cd_law_shape ct_law_shape : Value}
    {f_law_vacancy : Addr} {od_law_vacancy an_law_vacancy : Option Addr} {sl_law_vacancy : Array (Option Value)} {oc_law_vacancy kV_law_vacancy dc_law_vacancy pm_law_vacancy cd_law_vacancy ct_law_vacancy : Value}
    {f_law_strings : Addr} {od_law_strings an_law_strings : Option Addr} {sl_law_strings : Array (Option Value)} {oc_law_strings kV_law_strings dc_law_strings pm_law_strings cd_law_strings ct_law_strings : Value}
    {f_law_angles : Addr} {od_law_angles an_law_angles : Option Addr} {sl_law_angles : Array (Option Value)} {oc_law_angles kV_law_angles dc_law_angles pm_law_angles cd_law_angles ct_law_angles : Value}
    {f_law_lengths : Addr} {od_law_lengths an_law_lengths : Option Addr} {sl_law_lengths : Array (Option Value)} {oc_law_lengths kV_law_lengths dc_law_lengths pm_law_lengths cd_law_lengths ct_law_lengths : Value}
    {f_law : Addr} {od_law an_law : Option Addr} {sl_law : Array (Option Value)} {oc_law kV_law dc_law pm_law cd_law ct_law : Value}
    {t_MOST_LENGTH : Tok}
    {C_Malformed : Addr}
    (a1_is_integer : PySem.W.nsIn K mainGlobals "is_integer" = some (some (.ref f_is_integer))) (l1_is_integer : K.lookup f_is_integer = some ⟨oc_is_integer, od_is_integer, .func (PySem.W.fnOf "is_integer" "is_integer" (defArgs s_is_integer) (defBody s_is_integer) (defScope s_is_integer) .none kV_is_integer dc_is_integer pm_is_integer an_is_integer cd_is_integer ct_is_integer), sl_is_integer⟩) (c1_is_integer : PySem.W.codeIn K cd_is_integer "is_integer" = true) (k1_is_integer : PySem.W.keepIn K (.ref f_is_integer) = true)
    (a1_is_partition : PySem.W.nsIn K mainGlobals "is_partition" = some (some (.ref f_is_partition))) (l1_is_partition : K.lookup f_is_partition = some ⟨oc_is_partition, od_is_partition, .func (PySem.W.fnOf "is_partition" "is_partition" (defArgs s_is_partition) (defBody s_is_partition) (defScope s_is_partition) .none kV_is_partition dc_is_partition pm_is_partition an_is_partition cd_is_partition ct_is_partition), sl_is_partition⟩) (c1_is_partition : PySem.W.codeIn K cd_is_partition "is_partition" = true) (k1_is_partition : PySem.W.keepIn K (.ref f_is_partition) = true)
    (a1_is_shape : PySem.W.nsIn K mainGlobals "is_shape" = some (some (.ref f_is_shape))) (l1_is_shape : K.lookup f_is_shape = some ⟨oc_is_shape, od_is_shape, .func (PySem.W.fnOf "is_shape" "is_shape" (defArgs s_is_shape) (defBody s_is_shape) (defScope s_is_shape) .none kV_is_shape dc_is_shape pm_is_shape an_is_shape cd_is_shape ct_is_shape), sl_is_shape⟩) (c1_is_shape : PySem.W.codeIn K cd_is_shape "is_shape" = true) (k1_is_shape : PySem.W.keepIn K (.ref f_is_shape) = true)
    (a1_boxes_to : PySem.W.nsIn K mainGlobals "boxes_to" = some (some (.ref f_boxes_to))) (l1_boxes_to : K.lookup f_boxes_to = some ⟨oc_boxes_to, od_boxes_to, .func (PySem.W.fnOf "boxes_to" "boxes_to" (defArgs s_boxes_to) (defBody s_boxes_to) (defScope s_boxes_to) .none kV_boxes_to dc_boxes_to pm_boxes_to an_boxes_to cd_boxes_to ct_boxes_to), sl_boxes_to⟩) (c1_boxes_to : PySem.W.codeIn K cd_boxes_to "boxes_to" = true) (k1_boxes_to : PySem.W.keepIn K (.ref f_boxes_to) = true)
    (a1_check_shape : PySem.W.nsIn K mainGlobals "check_shape" = some (some (.ref f_check_shape))) (l1_check_shape : K.lookup f_check_shape = some ⟨oc_check_shape, od_check_shape, .func (PySem.W.fnOf "check_shape" "check_shape" (defArgs s_check_shape) (defBody s_check_shape) (defScope s_check_shape) .none kV_check_shape dc_check_shape pm_check_shape an_check_shape cd_check_shape ct_check_shape), sl_check_shape⟩) (c1_check_shape : PySem.W.codeIn K cd_check_shape "check_shape" = true) (k1_check_shape : PySem.W.keepIn K (.ref f_check_shape) = true)
    (a1_vacancy_of_ring : PySem.W.nsIn K mainGlobals "vacancy_of_ring" = some (some (.ref f_vacancy_of_ring))) (l1_vacancy_of_ring : K.lookup f_vacancy_of_ring = some ⟨oc_vacancy_of_ring, od_vacancy_of_ring, .func (PySem.W.fnOf "vacancy_of_ring" "vacancy_of_ring" (defArgs s_vacancy_of_ring) (defBody s_vacancy_of_ring) (defScope s_vacancy_of_ring) .none kV_vacancy_of_ring dc_vacancy_of_ring pm_vacancy_of_ring an_vacancy_of_ring cd_vacancy_of_ring ct_vacancy_of_ring), sl_vacancy_of_ring⟩) (c1_vacancy_of_ring : PySem.W.codeIn K cd_vacancy_of_ring "vacancy_of_ring" = true) (k1_vacancy_of_ring : PySem.W.keepIn K (.ref f_vacancy_of_ring) = true)
    (a1_is_round : PySem.W.nsIn K mainGlobals "is_round" = some (some (.ref f_is_round))) (l1_is_round : K.lookup f_is_round = some ⟨oc_is_round, od_is_round, .func (PySem.W.fnOf "is_round" "is_round" (defArgs s_is_round) (defBody s_is_round) (defScope s_is_round) .none kV_is_round dc_is_round pm_is_round an_is_round cd_is_round ct_is_round), sl_is_round⟩) (c1_is_round : PySem.W.codeIn K cd_is_round "is_round" = true) (k1_is_round : PySem.W.keepIn K (.ref f_is_round) = true)
    (a1_shape_of_rounds : PySem.W.nsIn K mainGlobals "shape_of_rounds" = some (some (.ref f_shape_of_rounds))) (l1_shape_of_rounds : K.lookup f_shape_of_rounds = some ⟨oc_shape_of_rounds, od_shape_of_rounds, .func (PySem.W.fnOf "shape_of_rounds" "shape_of_rounds" (defArgs s_shape_of_rounds) (defBody s_shape_of_rounds) (defScope s_shape_of_rounds) .none kV_shape_of_rounds dc_shape_of_rounds pm_shape_of_rounds an_shape_of_rounds cd_shape_of_rounds ct_shape_of_rounds), sl_shape_of_rounds⟩) (c1_shape_of_rounds : PySem.W.codeIn K cd_shape_of_rounds "shape_of_rounds" = true) (k1_shape_of_rounds : PySem.W.keepIn K (.ref f_shape_of_rounds) = true)
    (a1_are_rounds : PySem.W.nsIn K mainGlobals "are_rounds" = some (some (.ref f_are_rounds))) (l1_are_rounds : K.lookup f_are_rounds = some ⟨oc_are_rounds, od_are_rounds, .func (PySem.W.fnOf "are_rounds" "are_rounds" (defArgs s_are_rounds) (defBody s_are_rounds) (defScope s_are_rounds) .none kV_are_rounds dc_are_rounds pm_are_rounds an_are_rounds cd_are_rounds ct_are_rounds), sl_are_rounds⟩) (c1_are_rounds : PySem.W.codeIn K cd_are_rounds "are_rounds" = true) (k1_are_rounds : PySem.W.keepIn K (.ref f_are_rounds) = true)
    (a1_is_ring : PySem.W.nsIn K mainGlobals "is_ring" = some (some (.ref f_is_ring))) (l1_is_ring : K.lookup f_is_ring = some ⟨oc_is_ring, od_is_ring, .func (PySem.W.fnOf "is_ring" "is_ring" (defArgs s_is_ring) (defBody s_is_ring) (defScope s_is_ring) .none kV_is_ring dc_is_ring pm_is_ring an_is_ring cd_is_ring ct_is_ring), sl_is_ring⟩) (c1_is_ring : PySem.W.codeIn K cd_is_ring "is_ring" = true) (k1_is_ring : PySem.W.keepIn K (.ref f_is_ring) = true)
    (a1_check_ring : PySem.W.nsIn K mainGlobals "check_ring" = some (some (.ref f_check_ring))) (l1_check_ring : K.lookup f_check_ring = some ⟨oc_check_ring, od_check_ring, .func (PySem.W.fnOf "check_ring" "check_ring" (defArgs s_check_ring) (defBody s_check_ring) (defScope s_check_ring) .none kV_check_ring dc_check_ring pm_check_ring an_check_ring cd_check_ring ct_check_ring), sl_check_ring⟩) (c1_check_ring : PySem.W.codeIn K cd_check_ring "check_ring" = true) (k1_check_ring : PySem.W.keepIn K (.ref f_check_ring) = true)
    (a1_turned_ring : PySem.W.nsIn K mainGlobals "turned_ring" = some (some (.ref f_turned_ring))) (l1_turned_ring : K.lookup f_turned_ring = some ⟨oc_turned_ring, od_turned_ring, .func (PySem.W.fnOf "turned_ring" "turned_ring" (defArgs s_turned_ring) (defBody s_turned_ring) (defScope s_turned_ring) .none kV_turned_ring dc_turned_ring pm_turned_ring an_turned_ring cd_turned_ring ct_turned_ring), sl_turned_ring⟩) (c1_turned_ring : PySem.W.codeIn K cd_turned_ring "turned_ring" = true) (k1_turned_ring : PySem.W.keepIn K (.ref f_turned_ring) = true)
    (a1_is_high : PySem.W.nsIn K mainGlobals "is_high" = some (some (.ref f_is_high))) (l1_is_high : K.lookup f_is_high = some ⟨oc_is_high, od_is_high, .func (PySem.W.fnOf "is_high" "is_high" (defArgs s_is_high) (defBody s_is_high) (defScope s_is_high) .none kV_is_high dc_is_high pm_is_high an_is_high cd_is_high ct_is_high), sl_is_high⟩) (c1_is_high : PySem.W.codeIn K cd_is_high "is_high" = true) (k1_is_high : PySem.W.keepIn K (.ref f_is_high) = true)
    (a1_least_turn : PySem.W.nsIn K mainGlobals "least_turn" = some (some (.ref f_least_turn))) (l1_least_turn : K.lookup f_least_turn = some ⟨oc_least_turn, od_least_turn, .func (PySem.W.fnOf "least_turn" "least_turn" (defArgs s_least_turn) (defBody s_least_turn) (defScope s_least_turn) .none kV_least_turn dc_least_turn pm_least_turn an_least_turn cd_least_turn ct_least_turn), sl_least_turn⟩) (c1_least_turn : PySem.W.codeIn K cd_least_turn "least_turn" = true) (k1_least_turn : PySem.W.keepIn K (.ref f_least_turn) = true)
    (a1_vacancy : PySem.W.nsIn K mainGlobals "vacancy" = some (some (.ref f_vacancy))) (l1_vacancy : K.lookup f_vacancy = some ⟨oc_vacancy, od_vacancy, .func (PySem.W.fnOf "vacancy" "vacancy" (defArgs s_vacancy) (defBody s_vacancy) (defScope s_vacancy) .none kV_vacancy dc_vacancy pm_vacancy an_vacancy cd_vacancy ct_vacancy), sl_vacancy⟩) (c1_vacancy : PySem.W.codeIn K cd_vacancy "vacancy" = true) (k1_vacancy : PySem.W.keepIn K (.ref f_vacancy) = true)
    (a1_lengths_in : PySem.W.nsIn K mainGlobals "lengths_in" = some (some (.ref f_lengths_in))) (l1_lengths_in : K.lookup f_lengths_in = some ⟨oc_lengths_in, od_lengths_in, .func (PySem.W.fnOf "lengths_in" "lengths_in" (defArgs s_lengths_in) (defBody s_lengths_in) (defScope s_lengths_in) .none kV_lengths_in dc_lengths_in pm_lengths_in an_lengths_in cd_lengths_in ct_lengths_in), sl_lengths_in⟩) (c1_lengths_in : PySem.W.codeIn K cd_lengths_in "lengths_in" = true) (k1_lengths_in : PySem.W.keepIn K (.ref f_lengths_in) = true)
    (a1_chosen_for : PySem.W.nsIn K mainGlobals "chosen_for" = some (some (.ref f_chosen_for))) (l1_chosen_for : K.lookup f_chosen_for = some ⟨oc_chosen_for, od_chosen_for, .func (PySem.W.fnOf "chosen_for" "chosen_for" (defArgs s_chosen_for) (defBody s_chosen_for) (defScope s_chosen_for) .none kV_chosen_for dc_chosen_for pm_chosen_for an_chosen_for cd_chosen_for ct_chosen_for), sl_chosen_for⟩) (c1_chosen_for : PySem.W.codeIn K cd_chosen_for "chosen_for" = true) (k1_chosen_for : PySem.W.keepIn K (.ref f_chosen_for) = true)
    (a1_grown : PySem.W.nsIn K mainGlobals "grown" = some (some (.ref f_grown))) (l1_grown : K.lookup f_grown = some ⟨oc_grown, od_grown, .func (PySem.W.fnOf "grown" "grown" (defArgs s_grown) (defBody s_grown) (defScope s_grown) .none kV_grown dc_grown pm_grown an_grown cd_grown ct_grown), sl_grown⟩) (c1_grown : PySem.W.codeIn K cd_grown "grown" = true) (k1_grown : PySem.W.keepIn K (.ref f_grown) = true)
    (a1_lists_of : PySem.W.nsIn K mainGlobals "lists_of" = some (some (.ref f_lists_of))) (l1_lists_of : K.lookup f_lists_of = some ⟨oc_lists_of, od_lists_of, .func (PySem.W.fnOf "lists_of" "lists_of" (defArgs s_lists_of) (defBody s_lists_of) (defScope s_lists_of) .none kV_lists_of dc_lists_of pm_lists_of an_lists_of cd_lists_of ct_lists_of), sl_lists_of⟩) (c1_lists_of : PySem.W.codeIn K cd_lists_of "lists_of" = true) (k1_lists_of : PySem.W.keepIn K (.ref f_lists_of) = true)
    (a1_high_strings : PySem.W.nsIn K mainGlobals "high_strings" = some (some (.ref f_high_strings))) (l1_high_strings : K.lookup f_high_strings = some ⟨oc_high_strings, od_high_strings, .func (PySem.W.fnOf "high_strings" "high_strings" (defArgs s_high_strings) (defBody s_high_strings) (defScope s_high_strings) .none kV_high_strings dc_high_strings pm_high_strings an_high_strings cd_high_strings ct_high_strings), sl_high_strings⟩) (c1_high_strings : PySem.W.codeIn K cd_high_strings "high_strings" = true) (k1_high_strings : PySem.W.keepIn K (.ref f_high_strings) = true)
    (a1_angles : PySem.W.nsIn K mainGlobals "angles" = some (some (.ref f_angles))) (l1_angles : K.lookup f_angles = some ⟨oc_angles, od_angles, .func (PySem.W.fnOf "angles" "angles" (defArgs s_angles) (defBody s_angles) (defScope s_angles) .none kV_angles dc_angles pm_angles an_angles cd_angles ct_angles), sl_angles⟩) (c1_angles : PySem.W.codeIn K cd_angles "angles" = true) (k1_angles : PySem.W.keepIn K (.ref f_angles) = true)
    (a1_law_state : PySem.W.nsIn K mainGlobals "_law_state" = some (some (.ref f_law_state))) (l1_law_state : K.lookup f_law_state = some ⟨oc_law_state, od_law_state, .func (PySem.W.fnOf "_law_state" "_law_state" (defArgs s_law_state) (defBody s_law_state) (defScope s_law_state) .none kV_law_state dc_law_state pm_law_state an_law_state cd_law_state ct_law_state), sl_law_state⟩) (c1_law_state : PySem.W.codeIn K cd_law_state "_law_state" = true) (k1_law_state : PySem.W.keepIn K (.ref f_law_state) = true)
    (a1_law_take : PySem.W.nsIn K mainGlobals "_law_take" = some (some (.ref f_law_take))) (l1_law_take : K.lookup f_law_take = some ⟨oc_law_take, od_law_take, .func (PySem.W.fnOf "_law_take" "_law_take" (defArgs s_law_take) (defBody s_law_take) (defScope s_law_take) .none kV_law_take dc_law_take pm_law_take an_law_take cd_law_take ct_law_take), sl_law_take⟩) (c1_law_take : PySem.W.codeIn K cd_law_take "_law_take" = true) (k1_law_take : PySem.W.keepIn K (.ref f_law_take) = true)
    (a1_law_plain : PySem.W.nsIn K mainGlobals "_law_plain" = some (some (.ref f_law_plain))) (l1_law_plain : K.lookup f_law_plain = some ⟨oc_law_plain, od_law_plain, .func (PySem.W.fnOf "_law_plain" "_law_plain" (defArgs s_law_plain) (defBody s_law_plain) (defScope s_law_plain) .none kV_law_plain dc_law_plain pm_law_plain an_law_plain cd_law_plain ct_law_plain), sl_law_plain⟩) (c1_law_plain : PySem.W.codeIn K cd_law_plain "_law_plain" = true) (k1_law_plain : PySem.W.keepIn K (.ref f_law_plain) = true)
    (a1_law_ring : PySem.W.nsIn K mainGlobals "_law_ring" = some (some (.ref f_law_ring))) (l1_law_ring : K.lookup f_law_ring = some ⟨oc_law_ring, od_law_ring, .func (PySem.W.fnOf "_law_ring" "_law_ring" (defArgs s_law_ring) (defBody s_law_ring) (defScope s_law_ring) .none kV_law_ring dc_law_ring pm_law_ring an_law_ring cd_law_ring ct_law_ring), sl_law_ring⟩) (c1_law_ring : PySem.W.codeIn K cd_law_ring "_law_ring" = true) (k1_law_ring : PySem.W.keepIn K (.ref f_law_ring) = true)
    (a1_law_turned : PySem.W.nsIn K mainGlobals "_law_turned" = some (some (.ref f_law_turned))) (l1_law_turned : K.lookup f_law_turned = some ⟨oc_law_turned, od_law_turned, .func (PySem.W.fnOf "_law_turned" "_law_turned" (defArgs s_law_turned) (defBody s_law_turned) (defScope s_law_turned) .none kV_law_turned dc_law_turned pm_law_turned an_law_turned cd_law_turned ct_law_turned), sl_law_turned⟩) (c1_law_turned : PySem.W.codeIn K cd_law_turned "_law_turned" = true) (k1_law_turned : PySem.W.keepIn K (.ref f_law_turned) = true)
    (a1_law_is_high : PySem.W.nsIn K mainGlobals "_law_is_high" = some (some (.ref f_law_is_high))) (l1_law_is_high : K.lookup f_law_is_high = some ⟨oc_law_is_high, od_law_is_high, .func (PySem.W.fnOf "_law_is_high" "_law_is_high" (defArgs s_law_is_high) (defBody s_law_is_high) (defScope s_law_is_high) .none kV_law_is_high dc_law_is_high pm_law_is_high an_law_is_high cd_law_is_high ct_law_is_high), sl_law_is_high⟩) (c1_law_is_high : PySem.W.codeIn K cd_law_is_high "_law_is_high" = true) (k1_law_is_high : PySem.W.keepIn K (.ref f_law_is_high) = true)
    (a1_law_shape : PySem.W.nsIn K mainGlobals "_law_shape" = some (some (.ref f_law_shape))) (l1_law_shape : K.lookup f_law_shape = some ⟨oc_law_shape, od_law_shape, .func (PySem.W.fnOf "_law_shape" "_law_shape" (defArgs s_law_shape) (defBody s_law_shape) (defScope s_law_shape) .none kV_law_shape dc_law_shape pm_law_shape an_law_shape cd_law_shape ct_law_shape), sl_law_shape⟩) (c1_law_shape : PySem.W.codeIn K cd_law_shape "_law_shape" = true) (k1_law_shape : PySem.W.keepIn K (.ref f_law_shape) = true)
    (a1_law_vacancy : PySem.W.nsIn K mainGlobals "_law_vacancy" = some (some (.ref f_law_vacancy))) (l1_law_vacancy : K.lookup f_law_vacancy = some ⟨oc_law_vacancy, od_law_vacancy, .func (PySem.W.fnOf "_law_vacancy" "_law_vacancy" (defArgs s_law_vacancy) (defBody s_law_vacancy) (defScope s_law_vacancy) .none kV_law_vacancy dc_law_vacancy pm_law_vacancy an_law_vacancy cd_law_vacancy ct_law_vacancy), sl_law_vacancy⟩) (c1_law_vacancy : PySem.W.codeIn K cd_law_vacancy "_law_vacancy" = true) (k1_law_vacancy : PySem.W.keepIn K (.ref f_law_vacancy) = true)
    (a1_law_strings : PySem.W.nsIn K mainGlobals "_law_strings" = some (some (.ref f_law_strings))) (l1_law_strings : K.lookup f_law_strings = some ⟨oc_law_strings, od_law_strings, .func (PySem.W.fnOf "_law_strings" "_law_strings" (defArgs s_law_strings) (defBody s_law_strings) (defScope s_law_strings) .none kV_law_strings dc_law_strings pm_law_strings an_law_strings cd_law_strings ct_law_strings), sl_law_strings⟩) (c1_law_strings : PySem.W.codeIn K cd_law_strings "_law_strings" = true) (k1_law_strings : PySem.W.keepIn K (.ref f_law_strings) = true)
    (a1_law_angles : PySem.W.nsIn K mainGlobals "_law_angles" = some (some (.ref f_law_angles))) (l1_law_angles : K.lookup f_law_angles = some ⟨oc_law_angles, od_law_angles, .func (PySem.W.fnOf "_law_angles" "_law_angles" (defArgs s_law_angles) (defBody s_law_angles) (defScope s_law_angles) .none kV_law_angles dc_law_angles pm_law_angles an_law_angles cd_law_angles ct_law_angles), sl_law_angles⟩) (c1_law_angles : PySem.W.codeIn K cd_law_angles "_law_angles" = true) (k1_law_angles : PySem.W.keepIn K (.ref f_law_angles) = true)
    (a1_law_lengths : PySem.W.nsIn K mainGlobals "_law_lengths" = some (some (.ref f_law_lengths))) (l1_law_lengths : K.lookup f_law_lengths = some ⟨oc_law_lengths, od_law_lengths, .func (PySem.W.fnOf "_law_lengths" "_law_lengths" (defArgs s_law_lengths) (defBody s_law_lengths) (defScope s_law_lengths) .none kV_law_lengths dc_law_lengths pm_law_lengths an_law_lengths cd_law_lengths ct_law_lengths), sl_law_lengths⟩) (c1_law_lengths : PySem.W.codeIn K cd_law_lengths "_law_lengths" = true) (k1_law_lengths : PySem.W.keepIn K (.ref f_law_lengths) = true)
    (a1_law : PySem.W.nsIn K mainGlobals "law" = some (some (.ref f_law))) (l1_law : K.lookup f_law = some ⟨oc_law, od_law, .func (PySem.W.fnOf "law" "law" (defArgs s_law) (defBody s_law) (defScope s_law) .none kV_law dc_law pm_law an_law cd_law ct_law), sl_law⟩) (c1_law : PySem.W.codeIn K cd_law "law" = true) (k1_law : PySem.W.keepIn K (.ref f_law) = true)
    (z1_abs : PySem.W.nsIn K mainGlobals "abs" = some none)
    (z1_all : PySem.W.nsIn K mainGlobals "all" = some none)
    (z1_bool : PySem.W.nsIn K mainGlobals "bool" = some none)
    (z1_int : PySem.W.nsIn K mainGlobals "int" = some none)
    (z1_isinstance : PySem.W.nsIn K mainGlobals "isinstance" = some none)
    (z1_len : PySem.W.nsIn K mainGlobals "len" = some none)
    (z1_list : PySem.W.nsIn K mainGlobals "list" = some none)
    (z1_max : PySem.W.nsIn K mainGlobals "max" = some none)
    (z1_min : PySem.W.nsIn K mainGlobals "min" = some none)
    (z1_range : PySem.W.nsIn K mainGlobals "range" = some none)
    (z1_set : PySem.W.nsIn K mainGlobals "set" = some none)
    (z1_sorted : PySem.W.nsIn K mainGlobals "sorted" = some none)
    (z1_str : PySem.W.nsIn K mainGlobals "str" = some none)
    (z1_sum : PySem.W.nsIn K mainGlobals "sum" = some none)
    (z1_tuple : PySem.W.nsIn K mainGlobals "tuple" = some none)
    (c2_MOST_LENGTH : PySem.W.nsIn K mainGlobals "MOST_LENGTH" = some (some (.int 40 t_MOST_LENGTH)))
    (e1_Malformed : PySem.W.nsIn K mainGlobals "Malformed" = some (some (.ref C_Malformed))) (e2_Malformed : PySem.W.excIn K C_Malformed [.type "ValueError", .type "Exception", .type "BaseException", .type "object"] "ValueError.__new__" = true) (e3_Malformed : PySem.W.keepIn K (.ref C_Malformed) = true) (e4_Malformed : PySem.W.subIn K (.ref C_Malformed) (.type "BaseException") = some true) (e5_Malformed : PySem.W.typeIn K (.ref C_Malformed) = some (.type "type")) : Txt P K mg where
  a_is_integer := f_is_integer
  d_is_integer := _
  F_is_integer := fun_mk (st := s_is_integer) l1_is_integer c1_is_integer k1_is_integer
  b_is_integer := (fun_mk (st := s_is_integer) l1_is_integer c1_is_integer k1_is_integer).binds (ps := ["value"]) fun _ _ _ _ _ _ us hl => match us, hl with | [_], _ => rfl
  m_is_integer := PySem.W.mg_of X G a1_is_integer
  a_is_partition := f_is_partition
  d_is_partition := _
  F_is_partition := fun_mk (st := s_is_partition) l1_is_partition c1_is_partition k1_is_partition
  b_is_partition := (fun_mk (st := s_is_partition) l1_is_partition c1_is_partition k1_is_partition).binds (ps := ["value", "most"]) fun _ _ _ _ _ _ us hl => match us, hl with | [_, _], _ => rfl
  m_is_partition := PySem.W.mg_of X G a1_is_partition
  a_is_shape := f_is_shape
  d_is_shape := _
  F_is_shape := fun_mk (st := s_is_shape) l1_is_shape c1_is_shape k1_is_shape
  b_is_shape := (fun_mk (st := s_is_shape) l1_is_shape c1_is_shape k1_is_shape).binds (ps := ["value", "size"]) fun _ _ _ _ _ _ us hl => match us, hl with | [_, _], _ => rfl
  m_is_shape := PySem.W.mg_of X G a1_is_shape
  a_boxes_to := f_boxes_to
  d_boxes_to := _
  F_boxes_to := fun_mk (st := s_boxes_to) l1_boxes_to c1_boxes_to k1_boxes_to
  b_boxes_to := (fun_mk (st := s_boxes_to) l1_boxes_to c1_boxes_to k1_boxes_to).binds (ps := ["lengths", "k"]) fun _ _ _ _ _ _ us hl => match us, hl with | [_, _], _ => rfl
  m_boxes_to := PySem.W.mg_of X G a1_boxes_to
  a_check_shape := f_check_shape
  d_check_shape := _
  F_check_shape := fun_mk (st := s_check_shape) l1_check_shape c1_check_shape k1_check_shape
  b_check_shape := (fun_mk (st := s_check_shape) l1_check_shape c1_check_shape k1_check_shape).binds (ps := ["value", "size"]) fun _ _ _ _ _ _ us hl => match us, hl with | [_, _], _ => rfl
  m_check_shape := PySem.W.mg_of X G a1_check_shape
  a_vacancy_of_ring := f_vacancy_of_ring
  d_vacancy_of_ring := _
  F_vacancy_of_ring := fun_mk (st := s_vacancy_of_ring) l1_vacancy_of_ring c1_vacancy_of_ring k1_vacancy_of_ring
  b_vacancy_of_ring := (fun_mk (st := s_vacancy_of_ring) l1_vacancy_of_ring c1_vacancy_of_ring k1_vacancy_of_ring).binds (ps := ["shape", "size", "k"]) fun _ _ _ _ _ _ us hl => match us, hl with | [_, _, _], _ => rfl
  m_vacancy_of_ring := PySem.W.mg_of X G a1_vacancy_of_ring
  a_is_round := f_is_round
  d_is_round := _
  F_is_round := fun_mk (st := s_is_round) l1_is_round c1_is_round k1_is_round
  b_is_round := (fun_mk (st := s_is_round) l1_is_round c1_is_round k1_is_round).binds (ps := ["value"]) fun _ _ _ _ _ _ us hl => match us, hl with | [_], _ => rfl
  m_is_round := PySem.W.mg_of X G a1_is_round
  a_shape_of_rounds := f_shape_of_rounds
  d_shape_of_rounds := _
  F_shape_of_rounds := fun_mk (st := s_shape_of_rounds) l1_shape_of_rounds c1_shape_of_rounds k1_shape_of_rounds
  b_shape_of_rounds := (fun_mk (st := s_shape_of_rounds) l1_shape_of_rounds c1_shape_of_rounds k1_shape_of_rounds).binds (ps := ["rounds"]) fun _ _ _ _ _ _ us hl => match us, hl with | [_], _ => rfl
  m_shape_of_rounds := PySem.W.mg_of X G a1_shape_of_rounds
  a_are_rounds := f_are_rounds
  d_are_rounds := _
  F_are_rounds := fun_mk (st := s_are_rounds) l1_are_rounds c1_are_rounds k1_are_rounds
  b_are_rounds := (fun_mk (st := s_are_rounds) l1_are_rounds c1_are_rounds k1_are_rounds).binds (ps := ["value", "size"]) fun _ _ _ _ _ _ us hl => match us, hl with | [_, _], _ => rfl
  m_are_rounds := PySem.W.mg_of X G a1_are_rounds
  a_is_ring := f_is_ring
  d_is_ring := _
  F_is_ring := fun_mk (st := s_is_ring) l1_is_ring c1_is_ring k1_is_ring
  b_is_ring := (fun_mk (st := s_is_ring) l1_is_ring c1_is_ring k1_is_ring).binds (ps := ["value"]) fun _ _ _ _ _ _ us hl => match us, hl with | [_], _ => rfl
  m_is_ring := PySem.W.mg_of X G a1_is_ring
  a_check_ring := f_check_ring
  d_check_ring := _
  F_check_ring := fun_mk (st := s_check_ring) l1_check_ring c1_check_ring k1_check_ring
  b_check_ring := (fun_mk (st := s_check_ring) l1_check_ring c1_check_ring k1_check_ring).binds (ps := ["w"]) fun _ _ _ _ _ _ us hl => match us, hl with | [_], _ => rfl
  m_check_ring := PySem.W.mg_of X G a1_check_ring
  a_turned_ring := f_turned_ring
  d_turned_ring := _
  F_turned_ring := fun_mk (st := s_turned_ring) l1_turned_ring c1_turned_ring k1_turned_ring
  b_turned_ring := (fun_mk (st := s_turned_ring) l1_turned_ring c1_turned_ring k1_turned_ring).binds (ps := ["w", "d"]) fun _ _ _ _ _ _ us hl => match us, hl with | [_, _], _ => rfl
  m_turned_ring := PySem.W.mg_of X G a1_turned_ring
  a_is_high := f_is_high
  d_is_high := _
  F_is_high := fun_mk (st := s_is_high) l1_is_high c1_is_high k1_is_high
  b_is_high := (fun_mk (st := s_is_high) l1_is_high c1_is_high k1_is_high).binds (ps := ["w"]) fun _ _ _ _ _ _ us hl => match us, hl with | [_], _ => rfl
  m_is_high := PySem.W.mg_of X G a1_is_high
  a_least_turn := f_least_turn
  d_least_turn := _
  F_least_turn := fun_mk (st := s_least_turn) l1_least_turn c1_least_turn k1_least_turn
  b_least_turn := (fun_mk (st := s_least_turn) l1_least_turn c1_least_turn k1_least_turn).binds (ps := ["w"]) fun _ _ _ _ _ _ us hl => match us, hl with | [_], _ => rfl
  m_least_turn := PySem.W.mg_of X G a1_least_turn
  a_vacancy := f_vacancy
  d_vacancy := _
  F_vacancy := fun_mk (st := s_vacancy) l1_vacancy c1_vacancy k1_vacancy
  b_vacancy := (fun_mk (st := s_vacancy) l1_vacancy c1_vacancy k1_vacancy).binds (ps := ["shapes", "a", "k", "x"]) fun _ _ _ _ _ _ us hl => match us, hl with | [_, _, _, _], _ => rfl
  m_vacancy := PySem.W.mg_of X G a1_vacancy
  a_lengths_in := f_lengths_in
  d_lengths_in := _
  F_lengths_in := fun_mk (st := s_lengths_in) l1_lengths_in c1_lengths_in k1_lengths_in
  b_lengths_in := (fun_mk (st := s_lengths_in) l1_lengths_in c1_lengths_in k1_lengths_in).binds (ps := ["lists"]) fun _ _ _ _ _ _ us hl => match us, hl with | [_], _ => rfl
  m_lengths_in := PySem.W.mg_of X G a1_lengths_in
  a_chosen_for := f_chosen_for
  d_chosen_for := _
  F_chosen_for := fun_mk (st := s_chosen_for) l1_chosen_for c1_chosen_for k1_chosen_for
  b_chosen_for := (fun_mk (st := s_chosen_for) l1_chosen_for c1_chosen_for k1_chosen_for).binds (ps := ["lists", "colour", "x"]) fun _ _ _ _ _ _ us hl => match us, hl with | [_, _, _], _ => rfl
  m_chosen_for := PySem.W.mg_of X G a1_chosen_for
  a_grown := f_grown
  d_grown := _
  F_grown := fun_mk (st := s_grown) l1_grown c1_grown k1_grown
  b_grown := (fun_mk (st := s_grown) l1_grown c1_grown k1_grown).binds (ps := ["lists", "chosen", "colour", "x"]) fun _ _ _ _ _ _ us hl => match us, hl with | [_, _, _, _], _ => rfl
  m_grown := PySem.W.mg_of X G a1_grown
  a_lists_of := f_lists_of
  d_lists_of := _
  F_lists_of := fun_mk (st := s_lists_of) l1_lists_of c1_lists_of k1_lists_of
  b_lists_of := (fun_mk (st := s_lists_of) l1_lists_of c1_lists_of k1_lists_of).binds (ps := ["balls"]) fun _ _ _ _ _ _ us hl => match us, hl with | [_], _ => rfl
  m_lists_of := PySem.W.mg_of X G a1_lists_of
  a_high_strings := f_high_strings
  d_high_strings := _
  F_high_strings := fun_mk (st := s_high_strings) l1_high_strings c1_high_strings k1_high_strings
  b_high_strings := (fun_mk (st := s_high_strings) l1_high_strings c1_high_strings k1_high_strings).binds (ps := ["w", "d"]) fun _ _ _ _ _ _ us hl => match us, hl with | [_, _], _ => rfl
  m_high_strings := PySem.W.mg_of X G a1_high_strings
  a_angles := f_angles
  d_angles := _
  F_angles := fun_mk (st := s_angles) l1_angles c1_angles k1_angles
  b_angles := (fun_mk (st := s_angles) l1_angles c1_angles k1_angles).binds (ps := ["w"]) fun _ _ _ _ _ _ us hl => match us, hl with | [_], _ => rfl
  m_angles := PySem.W.mg_of X G a1_angles
  a_law_state := f_law_state
  d_law_state := _
  F_law_state := fun_mk (st := s_law_state) l1_law_state c1_law_state k1_law_state
  b_law_state := (fun_mk (st := s_law_state) l1_law_state c1_law_state k1_law_state).binds (ps := ["script"]) fun _ _ _ _ _ _ us hl => match us, hl with | [_], _ => rfl
  m_law_state := PySem.W.mg_of X G a1_law_state
  a_law_take := f_law_take
  d_law_take := _
  F_law_take := fun_mk (st := s_law_take) l1_law_take c1_law_take k1_law_take
  b_law_take := (fun_mk (st := s_law_take) l1_law_take c1_law_take k1_law_take).binds (ps := ["state", "m"]) fun _ _ _ _ _ _ us hl => match us, hl with | [_, _], _ => rfl
  m_law_take := PySem.W.mg_of X G a1_law_take
  a_law_plain := f_law_plain
  d_law_plain := _
  F_law_plain := fun_mk (st := s_law_plain) l1_law_plain c1_law_plain k1_law_plain
  b_law_plain := (fun_mk (st := s_law_plain) l1_law_plain c1_law_plain k1_law_plain).binds (ps := ["value"]) fun _ _ _ _ _ _ us hl => match us, hl with | [_], _ => rfl
  m_law_plain := PySem.W.mg_of X G a1_law_plain
  a_law_ring := f_law_ring
  d_law_ring := _
  F_law_ring := fun_mk (st := s_law_ring) l1_law_ring c1_law_ring k1_law_ring
  b_law_ring := (fun_mk (st := s_law_ring) l1_law_ring c1_law_ring k1_law_ring).binds (ps := ["state", "most"]) fun _ _ _ _ _ _ us hl => match us, hl with | [_, _], _ => rfl
  m_law_ring := PySem.W.mg_of X G a1_law_ring
  a_law_turned := f_law_turned
  d_law_turned := _
  F_law_turned := fun_mk (st := s_law_turned) l1_law_turned c1_law_turned k1_law_turned
  b_law_turned := (fun_mk (st := s_law_turned) l1_law_turned c1_law_turned k1_law_turned).binds (ps := ["w", "d"]) fun _ _ _ _ _ _ us hl => match us, hl with | [_, _], _ => rfl
  m_law_turned := PySem.W.mg_of X G a1_law_turned
  a_law_is_high := f_law_is_high
  d_law_is_high := _
  F_law_is_high := fun_mk (st := s_law_is_high) l1_law_is_high c1_law_is_high k1_law_is_high
  b_law_is_high := (fun_mk (st := s_law_is_high) l1_law_is_high c1_law_is_high k1_law_is_high).binds (ps := ["w"]) fun _ _ _ _ _ _ us hl => match us, hl with | [_], _ => rfl
  m_law_is_high := PySem.W.mg_of X G a1_law_is_high
  a_law_shape := f_law_shape
  d_law_shape := _
  F_law_shape := fun_mk (st := s_law_shape) l1_law_shape c1_law_shape k1_law_shape
  b_law_shape := (fun_mk (st := s_law_shape) l1_law_shape c1_law_shape k1_law_shape).binds (ps := ["w"]) fun _ _ _ _ _ _ us hl => match us, hl with | [_], _ => rfl
  m_law_shape := PySem.W.mg_of X G a1_law_shape
  a_law_vacancy := f_law_vacancy
  d_law_vacancy := _
  F_law_vacancy := fun_mk (st := s_law_vacancy) l1_law_vacancy c1_law_vacancy k1_law_vacancy
  b_law_vacancy := (fun_mk (st := s_law_vacancy) l1_law_vacancy c1_law_vacancy k1_law_vacancy).binds (ps := ["shape", "size", "k"]) fun _ _ _ _ _ _ us hl => match us, hl with | [_, _, _], _ => rfl
  m_law_vacancy := PySem.W.mg_of X G a1_law_vacancy
  a_law_strings := f_law_strings
  d_law_strings := _
  F_law_strings := fun_mk (st := s_law_strings) l1_law_strings c1_law_strings k1_law_strings
  b_law_strings := (fun_mk (st := s_law_strings) l1_law_strings c1_law_strings k1_law_strings).binds (ps := ["w"]) fun _ _ _ _ _ _ us hl => match us, hl with | [_], _ => rfl
  m_law_strings := PySem.W.mg_of X G a1_law_strings
  a_law_angles := f_law_angles
  d_law_angles := _
  F_law_angles := fun_mk (st := s_law_angles) l1_law_angles c1_law_angles k1_law_angles
  b_law_angles := (fun_mk (st := s_law_angles) l1_law_angles c1_law_angles k1_law_angles).binds (ps := ["w"]) fun _ _ _ _ _ _ us hl => match us, hl with | [_], _ => rfl
  m_law_angles := PySem.W.mg_of X G a1_law_angles
  a_law_lengths := f_law_lengths
  d_law_lengths := _
  F_law_lengths := fun_mk (st := s_law_lengths) l1_law_lengths c1_law_lengths k1_law_lengths
  b_law_lengths := (fun_mk (st := s_law_lengths) l1_law_lengths c1_law_lengths k1_law_lengths).binds (ps := ["rounds"]) fun _ _ _ _ _ _ us hl => match us, hl with | [_], _ => rfl
  m_law_lengths := PySem.W.mg_of X G a1_law_lengths
  a_law := f_law
  d_law := _
  F_law := fun_mk (st := s_law) l1_law c1_law k1_law
  b_law := (fun_mk (st := s_law) l1_law c1_law k1_law).binds (ps := ["script"]) fun _ _ _ _ _ _ us hl => match us, hl with | [_], _ => rfl
  m_law := PySem.W.mg_of X G a1_law
  z_abs := PySem.W.mg_none_of X G z1_abs
  z_all := PySem.W.mg_none_of X G z1_all
  z_bool := PySem.W.mg_none_of X G z1_bool
  z_int := PySem.W.mg_none_of X G z1_int
  z_isinstance := PySem.W.mg_none_of X G z1_isinstance
  z_len := PySem.W.mg_none_of X G z1_len
  z_list := PySem.W.mg_none_of X G z1_list
  z_max := PySem.W.mg_none_of X G z1_max
  z_min := PySem.W.mg_none_of X G z1_min
  z_range := PySem.W.mg_none_of X G z1_range
  z_set := PySem.W.mg_none_of X G z1_set
  z_sorted := PySem.W.mg_none_of X G z1_sorted
  z_str := PySem.W.mg_none_of X G z1_str
  z_sum := PySem.W.mg_none_of X G z1_sum
  z_tuple := PySem.W.mg_none_of X G z1_tuple
  t_MOST_LENGTH := _
  c_MOST_LENGTH := PySem.W.mg_of X G c2_MOST_LENGTH
  a_Malformed := C_Malformed
  m_Malformed := PySem.W.mg_of X G e1_Malformed
  x_Malformed := e2_Malformed
  k_Malformed := e3_Malformed
  xb_Malformed := e4_Malformed
  xt_Malformed := e5_Malformed
end DL
namespace DL
open PySem L2
/-! ### the draw, alike for every law -/
theorem state_loop (D : DV) : ∀ (ms : List Int) (s t : Int) (x : Option DV), ∃ s' t' x', forGo ckT (.nm 3) L0_law_state (dit (ms.map PV.int)) [some D, some (.p (.int s)), some (.p (.int t)), x] [] = .nx [some D, some (.p (.int s')), some (.p (.int t')), x'] []
  | [], s, t, x => ⟨s, t, x, for_nil⟩
  | m :: ms, s, t, x => by
    obtain ⟨s', t', x', e⟩ := state_loop D ms (s * 1000003 + (if m < 0 then -m else m)) ((t * 48271 + m) % 2147483647) (some (.p (.int m)))
    refine ⟨s', t', x', ?_⟩
    have m1 : ∀ (i : Int) (S : AH), mulO1 (.p (.int i)) (.p (.int 48271)) S = some (.p (.int (i * 48271)), S) := fun i S => mulO1_int (mulOk_r (by decide))
    have m2 : ∀ (i : Int) (S : AH), mulO1 (.p (.int i)) (.p (.int 1000003)) S = some (.p (.int (i * 1000003)), S) := fun i S => mulO1_int (mulOk_r (by decide))
    have mb : ∀ (i : Int) (S : AH), modO (.p (.int i)) (.p (.int 2147483647)) S = some (.p (.int (i % 2147483647)), S) := fun i S => modO_int (by decide)
    rw [List.map_cons, dit_cons, for_nm, ← e]
    simp [L0_law_state, m1, m2, mb]
theorem state_ok (ns : List Int) : ∃ a b : Int, d_law_state [.p (.fro (ns.map PV.int))] [] = .ok (.c 0) [.lst [.int a, .int b]] := by
  obtain ⟨s', t', x', e⟩ := state_loop (.p (.fro (ns.map PV.int))) (cutL ns none (some 63)) 0 1 none
  refine ⟨s', t', ?_⟩
  rw [← cutL_map] at e
  simp [d_law_state, b_law_state_, e]
  exact gc_cell (by simp) (Nat.zero_le _) rfl
def tkV (a b m : Int) : Int := if 0 < a then a % m else (b * 48271 + 11) % 2147483647 / 7 % m
def tkA (a m : Int) : Int := if 0 < a then a / m else a
def tkB (a b : Int) : Int := if 0 < a then b else (b * 48271 + 11) % 2147483647
theorem tkV_bd {a b m : Int} (h : 0 < m) : 0 ≤ tkV a b m ∧ tkV a b m < m := by
  unfold tkV
  split
  · exact ⟨Int.emod_nonneg _ (by omega), Int.emod_lt_of_pos _ h⟩
  · exact ⟨Int.emod_nonneg _ (by omega), Int.emod_lt_of_pos _ h⟩
theorem ixO_c0 {i : Int} {xs : List PV} {x : PV} {R : AH} (e : atI xs i = some x) : ixO (.c 0) (.p (.int i)) (.lst xs :: R) = some (.p x, .lst xs :: R) := ixO_c rfl e
theorem take_ok0 (a b m : Int) (R : AH) (h0 : 0 < m) (hm : divOk m) : d_law_take [.c 0, .p (.int m)] (.lst [.int a, .int b] :: R) = .ok (.p (.int (tkV a b m))) (.lst [.int (tkA a m), .int (tkB a b)] :: R) := by
  have e0 : ∀ (x y : PV) (R : AH), ixO (.c 0) (.p (.int 0)) (.lst [x, y] :: R) = some (.p x, .lst [x, y] :: R) := fun x y R => ixO_c0 rfl
  have e1 : ∀ (x y : PV) (R : AH), ixO (.c 0) (.p (.int 1)) (.lst [x, y] :: R) = some (.p y, .lst [x, y] :: R) := fun x y R => ixO_c0 rfl
  have s0 : ∀ (x y z : PV) (R : AH), setIx (.c 0) (.p (.int 0)) (.p z) (.lst [x, y] :: R) = some (.lst [z, y] :: R) := fun x y z R => rfl
  have s1 : ∀ (x y z : PV) (R : AH), setIx (.c 0) (.p (.int 1)) (.p z) (.lst [x, y] :: R) = some (.lst [x, z] :: R) := fun x y z R => rfl
  have j0 : ∀ (δ : Sig) (x y z : PV) (R : AH), jSub3 (.c 0) (.p z) (.p (.int 0)) δ (.lst [x, y] :: R) = .nx δ (.lst [z, y] :: R) := fun δ x y z R => ev_jSub3 (s0 x y z R)
  have j1 : ∀ (δ : Sig) (x y z : PV) (R : AH), jSub3 (.c 0) (.p z) (.p (.int 1)) δ (.lst [x, y] :: R) = .nx δ (.lst [x, z] :: R) := fun δ x y z R => ev_jSub3 (s1 x y z R)
  have m1 : ∀ (i : Int) (S : AH), mulO1 (.p (.int i)) (.p (.int 48271)) S = some (.p (.int (i * 48271)), S) := fun i S => mulO1_int (mulOk_r (by decide))
  have d7 : ∀ (i : Int) (S : AH), divO (.p (.int i)) (.p (.int 7)) S = some (.p (.int (i / 7)), S) := fun i S => divO_int (divOk_of (by decide) (by decide))
  have mb : ∀ (i : Int) (S : AH), modO (.p (.int i)) (.p (.int 2147483647)) S = some (.p (.int (i % 2147483647)), S) := fun i S => modO_int (by decide)
  have mm : ∀ (i : Int) (S : AH), modO (.p (.int i)) (.p (.int m)) S = some (.p (.int (i % m)), S) := fun i S => modO_int h0
  have dm : ∀ (i : Int) (S : AH), divO (.p (.int i)) (.p (.int m)) S = some (.p (.int (i / m)), S) := fun i S => divO_int hm
  by_cases h : 0 < a
  · simp [d_law_take, b_law_take_, e0, e1, j0, j1, m1, d7, mb, mm, dm, h, tkV, tkA, tkB]
  · simp [d_law_take, b_law_take_, e0, e1, j0, j1, m1, d7, mb, mm, dm, h, tkV, tkA, tkB]
/-- a cell of two numbers: the draw's state -/
def St2 (c : Cell) : Prop := ∃ a b : Int, c = .lst [.int a, .int b]
/-- a take: some number below the bound -/
theorem take_ok {c : Cell} (h : St2 c) {m : Int} (R : AH) (h0 : 0 < m) (h1 : m < 2 ^ 64) : ∃ v c', St2 c' ∧ (0 ≤ v ∧ v < m) ∧ d_law_take [.c 0, .p (.int m)] (c :: R) = .ok (.p (.int v)) (c' :: R) := by
  obtain ⟨a, b, rfl⟩ := h
  exact ⟨_, _, ⟨_, _, rfl⟩, tkV_bd h0, take_ok0 a b m R h0 (divOk_of h0 h1)⟩
end DL
namespace DL
/-! ### the carrier, plain -/
def sB (l b c : Int) : Int := if b = 1 ∧ c < l then 0 else if b = 0 ∧ 0 < c then 1 else b
def sC (l b c : Int) : Int := if b = 1 ∧ c < l then c + 1 else if b = 0 ∧ 0 < c then c - 1 else c
def out (l : Int) : List Int → Int → List Int
  | [], _ => []
  | b :: w, c => sB l b c :: out l w (sC l b c)
def fin (l : Int) : List Int → Int → Int
  | [], c => c
  | b :: w, c => fin l w (sC l b c)
def Bits (w : List Int) : Prop := ∀ b ∈ w, b = 0 ∨ b = 1
theorem Bits.tl {b : Int} {w : List Int} (h : Bits (b :: w)) : Bits w := fun x hx => h x (List.mem_cons_of_mem _ hx)
theorem Bits.hd {b : Int} {w : List Int} (h : Bits (b :: w)) : b = 0 ∨ b = 1 := h b List.mem_cons_self
theorem sC_bd {l b c : Int} (h0 : 0 ≤ c) (h1 : c ≤ l) : 0 ≤ sC l b c ∧ sC l b c ≤ l := by
  unfold sC
  split
  · omega
  · split <;> omega
theorem sB_bit {l b c : Int} (h : b = 0 ∨ b = 1) : sB l b c = 0 ∨ sB l b c = 1 := by
  unfold sB
  split
  · exact .inl rfl
  · split
    · exact .inr rfl
    · exact h
theorem fin_bd {l : Int} : ∀ (w : List Int) {c : Int}, 0 ≤ c → c ≤ l → 0 ≤ fin l w c ∧ fin l w c ≤ l
  | [], c, h0, h1 => ⟨h0, h1⟩
  | b :: w, c, h0, h1 => fin_bd w (sC_bd h0 h1).1 (sC_bd h0 h1).2
theorem out_len {l : Int} : ∀ (w : List Int) (c : Int), (out l w c).length = w.length
  | [], c => rfl
  | b :: w, c => by simp only [out, List.length_cons, out_len w]
theorem out_bits {l : Int} : ∀ {w : List Int} (c : Int), Bits w → Bits (out l w c)
  | [], c, h => h
  | b :: w, c, h => fun x hx => by
    rcases List.mem_cons.mp hx with rfl | hx
    · exact sB_bit h.hd
    · exact out_bits _ h.tl x hx
theorem out_sum {l : Int} : ∀ (w : List Int) (c : Int), (out l w c).sum + fin l w c = w.sum + c
  | [], c => by simp [out, fin]
  | b :: w, c => by
    have ih := out_sum (l := l) w (sC l b c)
    simp only [out, fin, List.sum_cons]
    have : sB l b c + sC l b c = b + c := by unfold sB sC; split; omega; split <;> omega
    omega
theorem out_app {l : Int} : ∀ (u v : List Int) (c : Int), out l (u ++ v) c = out l u c ++ out l v (fin l u c)
  | [], v, c => rfl
  | b :: u, v, c => by simp only [List.cons_append, out, fin, out_app u v]
theorem fin_app {l : Int} : ∀ (u v : List Int) (c : Int), fin l (u ++ v) c = fin l v (fin l u c)
  | [], v, c => rfl
  | b :: u, v, c => by simp only [List.cons_append, fin, fin_app u v]
theorem fin_mono {l : Int} : ∀ (w : List Int) {a b : Int}, a ≤ b → fin l w a ≤ fin l w b
  | [], a, b, h => h
  | x :: w, a, b, h => fin_mono w (by unfold sC; split <;> split <;> (try split) <;> (try split) <;> omega)
theorem fin_gap {l : Int} : ∀ {w : List Int} {a b : Int}, Bits w → 0 ≤ a → a < b → b ≤ l → fin l w a = fin l w b ∨ fin l w b ≤ b + 2 * w.sum - w.length
  | [], a, b, _, _, _, _ => .inr (by simp [fin])
  | x :: w, a, b, hw, h0, h1, h2 => by
    have hx := hw.hd
    by_cases e : sC l x a = sC l x b
    · exact .inl (by simp only [fin, e])
    · have k : sC l x a < sC l x b := by
        revert e; unfold sC; split <;> split <;> (try split) <;> (try split) <;> omega
      have kb : sC l x b ≤ b + 2 * x - 1 := by
        unfold sC; split
        · omega
        · split <;> omega
      rcases fin_gap hw.tl (sC_bd h0 (by omega)).1 k (sC_bd (by omega) h2).2 with q | q
      · exact .inl q
      · refine .inr ?_
        simp only [fin, List.sum_cons, List.length_cons]
        omega
/-- a ring -/
structure Ring (w : List Int) : Prop where
  b : Bits w
  p : 0 < w.length
  m : w.length ≤ 40
  s : 2 * w.sum < w.length
/-- the count of a ring -/
def cnt (l : Int) (w : List Int) : Int := fin l w 0
def car (l : Int) (w : List Int) : List Int := out l w (cnt l w)
theorem cnt_bd {l : Int} {w : List Int} (hl : 0 ≤ l) : 0 ≤ cnt l w ∧ cnt l w ≤ l := fin_bd w (Int.le_refl 0) hl
theorem fin_up {l : Int} : ∀ (w : List Int) (c : Int), fin l w c ≤ c + w.length
  | [], c => by simp [fin]
  | b :: w, c => by
    have := fin_up (l := l) w (sC l b c)
    have k : sC l b c ≤ c + 1 := by unfold sC; split; omega; split <;> omega
    simp only [fin, List.length_cons]
    omega
theorem cnt_fix {l : Int} {w : List Int} (hl : 0 ≤ l) (h : Ring w) : fin l w (cnt l w) = cnt l w := by
  have hb := cnt_bd (w := w) hl
  by_cases e : cnt l w = 0
  · rw [e]; exact e
  · rcases fin_gap h.b (Int.le_refl 0) (show 0 < cnt l w by omega) hb.2 with q | q
    · exact q.symm
    · have := fin_mono (l := l) w hb.1
      have := h.s
      have e2 : fin l w 0 = cnt l w := rfl
      omega
theorem cnt_uni {l : Int} {w : List Int} (h : Ring w) {x : Int} (h0 : 0 ≤ x) (h1 : x ≤ l) (e : fin l w x = x) : x = cnt l w := by
  by_cases z : x = 0
  · subst z; exact e.symm
  · rcases fin_gap h.b (Int.le_refl 0) (show 0 < x by omega) h1 with q | q
    · have e2 : fin l w 0 = cnt l w := rfl
      omega
    · have := h.s
      omega
theorem car_of {l : Int} {w : List Int} (h : Ring w) {x : Int} (h0 : 0 ≤ x) (h1 : x ≤ l) (e : fin l w x = x) : car l w = out l w x := by
  unfold car; rw [← cnt_uni h h0 h1 e]
theorem car_len {l : Int} {w : List Int} : (car l w).length = w.length := out_len w _
theorem car_sum {l : Int} {w : List Int} (hl : 0 ≤ l) (h : Ring w) : (car l w).sum = w.sum := by
  have := out_sum (l := l) w (cnt l w)
  have := cnt_fix hl h
  unfold car
  omega
theorem car_ring {l : Int} {w : List Int} (hl : 0 ≤ l) (h : Ring w) : Ring (car l w) := ⟨out_bits _ h.b, by rw [car_len]; exact h.p, by rw [car_len]; exact h.m, by rw [car_len, car_sum hl h]; exact h.s⟩
/- back -/
theorem s1lt {l c : Int} (h : c < l) : sB l 1 c = 0 ∧ sC l 1 c = c + 1 := by simp [sB, sC, h]
theorem s1ge {l c : Int} (h : ¬ c < l) : sB l 1 c = 1 ∧ sC l 1 c = c := by simp [sB, sC, h]
theorem s0p {l c : Int} (h : 0 < c) : sB l 0 c = 1 ∧ sC l 0 c = c - 1 := by simp [sB, sC, h]
theorem s0z {l c : Int} (h : ¬ 0 < c) : sB l 0 c = 0 ∧ sC l 0 c = c := by simp [sB, sC, h]
/-- one step, by cases -/
theorem s_cases {l b c : Int} (hb : b = 0 ∨ b = 1) : (b = 1 ∧ c < l ∧ sB l b c = 0 ∧ sC l b c = c + 1) ∨ (b = 1 ∧ ¬ c < l ∧ sB l b c = 1 ∧ sC l b c = c) ∨ (b = 0 ∧ 0 < c ∧ sB l b c = 1 ∧ sC l b c = c - 1) ∨ (b = 0 ∧ ¬ 0 < c ∧ sB l b c = 0 ∧ sC l b c = c) := by
  rcases hb with rfl | rfl
  · by_cases h : 0 < c
    · exact .inr (.inr (.inl ⟨rfl, h, s0p h⟩))
    · exact .inr (.inr (.inr ⟨rfl, h, s0z h⟩))
  · by_cases h : c < l
    · exact .inl ⟨rfl, h, s1lt h⟩
    · exact .inr (.inl ⟨rfl, h, s1ge h⟩)
theorem s_inv {l b c : Int} (hb : b = 0 ∨ b = 1) (h0 : 0 ≤ c) (h1 : c ≤ l) : sB l (sB l b c) (sC l b c) = b ∧ sC l (sB l b c) (sC l b c) = c := by
  have k := s_cases (l := l) (c := sC l b c) (sB_bit (l := l) (c := c) hb)
  have k2 := s_cases (l := l) (c := c) hb
  omega
theorem run_rev {l : Int} : ∀ {w : List Int} {c : Int}, Bits w → 0 ≤ c → c ≤ l → out l (out l w c).reverse (fin l w c) = w.reverse ∧ fin l (out l w c).reverse (fin l w c) = c
  | [], c, _, _, _ => ⟨rfl, rfl⟩
  | b :: w, c, hw, h0, h1 => by
    obtain ⟨i1, i2⟩ := run_rev hw.tl (sC_bd (b := b) h0 h1).1 (sC_bd (b := b) h0 h1).2
    obtain ⟨k1, k2⟩ := s_inv hw.hd h0 h1
    simp only [out, fin, List.reverse_cons, out_app, fin_app, i1, i2, k1, k2, and_self]
theorem Ring.rev {w : List Int} (h : Ring w) : Ring w.reverse := ⟨fun b hb => h.b b (List.mem_reverse.mp hb), by rw [List.length_reverse]; exact h.p, by rw [List.length_reverse]; exact h.m, by rw [List.length_reverse, List.sum_reverse]; exact h.s⟩
theorem car_back {l : Int} {w : List Int} (hl : 0 ≤ l) (h : Ring w) : car l (car l w).reverse = w.reverse := by
  have hb := cnt_bd (w := w) hl
  obtain ⟨k1, k2⟩ := run_rev (l := l) h.b hb.1 hb.2
  rw [cnt_fix hl h] at k1 k2
  rw [car_of (car_ring hl h).rev hb.1 hb.2 k2]
  exact k1
/-- the inverse -/
def bak (l : Int) (w : List Int) : List Int := (car l w.reverse).reverse
theorem bak_car {l : Int} {w : List Int} (hl : 0 ≤ l) (h : Ring w) : bak l (car l w) = w := by
  unfold bak; rw [car_back hl h, List.reverse_reverse]
theorem car_bak {l : Int} {w : List Int} (hl : 0 ≤ l) (h : Ring w) : car l (bak l w) = w := by
  unfold bak; rw [car_back hl h.rev, List.reverse_reverse]
theorem bak_ring {l : Int} {w : List Int} (hl : 0 ≤ l) (h : Ring w) : Ring (bak l w) := (car_ring hl h.rev).rev
/- room 1 -/
theorem s_one {b c : Int} (hb : b = 0 ∨ b = 1) (hc : c = 0 ∨ c = 1) : sB 1 b c = c ∧ sC 1 b c = b := by
  rcases hb with rfl | rfl <;> rcases hc with rfl | rfl <;> decide
theorem out_one : ∀ {w : List Int} {x c : Int}, Bits (w ++ [x]) → (c = 0 ∨ c = 1) → out 1 (w ++ [x]) c = c :: w ∧ fin 1 (w ++ [x]) c = x
  | [], x, c, h, hc => by
    have := s_one h.hd hc
    simp only [List.nil_append, out, fin, this, and_self]
  | b :: w, x, c, h, hc => by
    have := s_one h.hd hc
    have ih := out_one h.tl h.hd
    simp only [List.cons_append, out, fin, this, ih, and_self]
theorem car_one {w : List Int} {x : Int} (h : Ring (w ++ [x])) : car 1 (w ++ [x]) = x :: w := by
  have hx : x = 0 ∨ x = 1 := h.b x (List.mem_append_right _ List.mem_cons_self)
  have k := out_one h.b hx
  rw [car_of h (x := x) (by omega) (by omega) k.2]
  exact k.1
theorem bak_one {w : List Int} {x : Int} (h : Ring (x :: w)) : bak 1 (x :: w) = w ++ [x] := by
  have := h.rev
  rw [List.reverse_cons] at this
  unfold bak
  rw [List.reverse_cons, car_one this, List.reverse_cons, List.reverse_reverse]
/- two carriers -/
def rD (l m c d : Int) : Int := d - min (l - c) d + min c (m - d)
def rC (l m c d : Int) : Int := c + min (l - c) d - min c (m - d)
theorem s_swap {l m b c d : Int} (hb : b = 0 ∨ b = 1) (h0 : 0 ≤ c) (h1 : c ≤ l) (k0 : 0 ≤ d) (k1 : d ≤ m) :
    sB l (sB m b (rD l m c d)) (rC l m c d) = sB m (sB l b c) d ∧ rD l m (sC l b c) (sC m (sB l b c) d) = sC m b (rD l m c d) ∧ rC l m (sC l b c) (sC m (sB l b c) d) = sC l (sB m b (rD l m c d)) (rC l m c d) := by
  have e1 := s_cases (l := l) (c := c) hb
  have e2 := s_cases (l := m) (c := d) (sB_bit (l := l) (c := c) hb)
  have e3 := s_cases (l := m) (c := rD l m c d) hb
  have e4 := s_cases (l := l) (c := rC l m c d) (sB_bit (l := m) (c := rD l m c d) hb)
  generalize sB l (sB m b (rD l m c d)) (rC l m c d) = x4 at *
  generalize sC l (sB m b (rD l m c d)) (rC l m c d) = y4 at *
  generalize sB m b (rD l m c d) = x3 at *
  generalize sC m b (rD l m c d) = y3 at *
  generalize sB m (sB l b c) d = x2 at *
  generalize sC m (sB l b c) d = y2 at *
  generalize sB l b c = x1 at *
  generalize sC l b c = y1 at *
  simp only [rD, rC] at *
  rcases e1 with ⟨rfl, p1, q1, rfl⟩ | ⟨rfl, p1, q1, rfl⟩ | ⟨rfl, p1, q1, rfl⟩ | ⟨rfl, p1, q1, rfl⟩ <;> rcases e2 with ⟨o2, p2, q2, rfl⟩ | ⟨o2, p2, q2, rfl⟩ | ⟨o2, p2, q2, rfl⟩ | ⟨o2, p2, q2, rfl⟩ <;> first | (exfalso; omega) | skip
  all_goals rcases e3 with ⟨o3, p3, q3, rfl⟩ | ⟨o3, p3, q3, rfl⟩ | ⟨o3, p3, q3, rfl⟩ | ⟨o3, p3, q3, rfl⟩ <;> first | (exfalso; omega) | skip
  all_goals rcases e4 with ⟨o4, p4, q4, rfl⟩ | ⟨o4, p4, q4, rfl⟩ | ⟨o4, p4, q4, rfl⟩ | ⟨o4, p4, q4, rfl⟩ <;> first | (exfalso; omega) | (refine ⟨?_, ?_, ?_⟩ <;> omega)
theorem r_bd {l m c d : Int} (h0 : 0 ≤ c) (h1 : c ≤ l) (k0 : 0 ≤ d) (k1 : d ≤ m) : (0 ≤ rD l m c d ∧ rD l m c d ≤ m) ∧ 0 ≤ rC l m c d ∧ rC l m c d ≤ l := by
  unfold rD rC; omega
theorem run_swap {l m : Int} : ∀ {w : List Int} {c d : Int}, Bits w → 0 ≤ c → c ≤ l → 0 ≤ d → d ≤ m →
    out l (out m w (rD l m c d)) (rC l m c d) = out m (out l w c) d ∧ rD l m (fin l w c) (fin m (out l w c) d) = fin m w (rD l m c d) ∧ rC l m (fin l w c) (fin m (out l w c) d) = fin l (out m w (rD l m c d)) (rC l m c d)
  | [], c, d, _, _, _, _, _ => ⟨rfl, rfl, rfl⟩
  | b :: w, c, d, hw, h0, h1, k0, k1 => by
    obtain ⟨s1, s2, s3⟩ := s_swap hw.hd h0 h1 k0 k1
    obtain ⟨i1, i2, i3⟩ := run_swap (m := m) (d := sC m (sB l b c) d) hw.tl (sC_bd (b := b) h0 h1).1 (sC_bd (b := b) h0 h1).2 (sC_bd k0 k1).1 (sC_bd k0 k1).2
    simp only [out, fin]
    rw [s2] at i1 i2 i3
    rw [s3] at i1 i3
    exact ⟨by rw [s1, i1], i2, i3⟩
theorem car_comm {l m : Int} {w : List Int} (hl : 0 ≤ l) (hm : 0 ≤ m) (h : Ring w) : car m (car l w) = car l (car m w) := by
  have hc := cnt_bd (w := w) hl
  have hd := cnt_bd (w := car l w) hm
  have hr := car_ring hl h
  have f1 := cnt_fix hl h
  have f2 := cnt_fix hm hr
  obtain ⟨s1, s2, s3⟩ := run_swap (m := m) h.b hc.1 hc.2 hd.1 hd.2
  have hb := r_bd hc.1 hc.2 hd.1 hd.2
  change _ = out m (car l w) _ at s1
  rw [f1] at s2 s3
  change rD _ _ _ (fin m (car l w) _) = _ at s2
  change rC _ _ _ (fin m (car l w) _) = _ at s3
  rw [f2] at s2 s3
  have e1 := car_of h hb.1.1 hb.1.2 s2.symm
  rw [e1]
  have h2 : Ring (car m w) := car_ring hm h
  rw [e1] at h2
  rw [car_of h2 hb.2.1 hb.2.2 s3.symm, s1]
  rfl
/- turning -/
theorem Ring.rot {u v : List Int} (h : Ring (u ++ v)) : Ring (v ++ u) := ⟨fun b hb => h.b b (by rw [List.mem_append] at hb ⊢; exact hb.symm), by have := h.p; rw [List.length_append] at *; omega, by have := h.m; rw [List.length_append] at *; omega, by have := h.s; rw [List.length_append, List.sum_append] at *; omega⟩
theorem car_rot {l : Int} {u v : List Int} (hl : 0 ≤ l) (h : Ring (u ++ v)) : ∃ u' v', car l (u ++ v) = u' ++ v' ∧ u'.length = u.length ∧ car l (v ++ u) = v' ++ u' := by
  have hb := cnt_bd (w := u ++ v) hl
  have f := cnt_fix hl h
  have he := fin_bd u hb.1 hb.2
  rw [fin_app] at f
  refine ⟨out l u (cnt l (u ++ v)), out l v (fin l u (cnt l (u ++ v))), out_app u v _, out_len _ _, ?_⟩
  rw [car_of h.rot he.1 he.2 (by rw [fin_app, f]), out_app, f]
end DL
namespace DL
/-! ### tellings, as plain functions: strings (length, rigging), three lists -/
abbrev SL := List (Int × Int)
def bx (ls : List Int) (k : Int) : Int := (ls.map fun m => if m < k then m else k).sum
/-- the vacancy of the length k in the shape a -/
def vac (sh : List (List Int)) (a : Nat) (k x : Int) : Int := (if a = 1 then x else bx (sh.getD (a - 2) []) k) - 2 * bx (sh.getD (a - 1) []) k + (if a = 3 then 0 else bx (sh.getD a []) k)
def shp (L : List SL) : List (List Int) := L.map fun ss => ss.map (·.1)
/-- the first longest string that is p -/
def bestGo (p : Int × Int → Bool) : SL → Nat → Option (Nat × Int) → Option (Nat × Int)
  | [], _, b => b
  | s :: r, k, b => bestGo p r (k + 1) (if p s = true ∧ (b.all fun q => decide (q.2 < s.1)) = true then some (k, s.1) else b)
def okS (L : List SL) (a : Nat) (x : Int) (most : Option Int) (s : Int × Int) : Bool := (most.all fun m => decide (s.1 ≤ m)) && decide (s.2 = vac (shp L) a s.1 x)
/-- what is chosen in the lists a, .., 1 -/
def chG (L : List SL) (x : Int) : Nat → Option Int → List (Option (Nat × Int))
  | 0, _ => []
  | a + 1, most => bestGo (okS L (a + 1) x most) (L.getD a []) 0 none :: chG L x a (some ((bestGo (okS L (a + 1) x most) (L.getD a []) 0 none).elim 0 (·.2)))
def chosen (L : List SL) (c : Nat) (x : Int) : List (Option (Nat × Int)) := chG L x c none
/-- a string longer by 1, its rigging open -/
def long1 (b : Option (Nat × Int)) (ss : SL) : SL := match b with
  | none => ss ++ [(1, 0)]
  | some (i, l) => ss.set i (l + 1, 0)
def plc (b : Option (Nat × Int)) (ss : SL) : Nat := match b with
  | none => ss.length
  | some (i, _) => i
def nlen (b : Option (Nat × Int)) : Int := match b with
  | none => 1
  | some (_, l) => l + 1
/-- step by step: the list with the index a is the one that the step number c - a - 1 changes -/
def longG (L : List SL) : Nat → List (Option (Nat × Int)) → List SL
  | a + 1, b :: bs => longG (L.set a (long1 b (L.getD a []))) a bs
  | _, _ => L
def ripeG (L0 : List SL) (sh : List (List Int)) (x : Int) (L : List SL) : Nat → List (Option (Nat × Int)) → List SL
  | a + 1, b :: bs => ripeG L0 sh x (L.set a ((L.getD a []).set (plc b (L0.getD a [])) (nlen b, vac sh (a + 1) (nlen b) (x + 1)))) a bs
  | _, _ => L
def grown (L : List SL) (bs : List (Option (Nat × Int))) (c : Nat) (x : Int) : List SL := ripeG L (shp (longG L c bs)) x (longG L c bs) c bs
def oneB (L : List SL) (b : Int × Int) : List SL := grown L (chosen L b.2.toNat b.1) b.2.toNat b.1
def trc (L : List SL) (b : Int × Int) : List Int := (chosen L b.2.toNat b.1).map fun q => q.elim 0 (·.2)
def listsG : List SL → List (List Int) → List (Int × Int) → List SL × List (List Int)
  | L, t, [] => (L, t)
  | L, t, b :: bs => listsG (oneB L b) (t ++ [trc L b]) bs
def listsOf (balls : List (Int × Int)) : List SL × List (List Int) := listsG [[], [], []] [] balls
/-! sizes -/
theorem longG_len : ∀ (a : Nat) (bs : List (Option (Nat × Int))) (L : List SL), (longG L a bs).length = L.length
  | 0, _, L => by cases ‹List (Option (Nat × Int))› <;> rfl
  | a + 1, [], L => rfl
  | a + 1, b :: bs, L => by
    show (longG (L.set a _) a bs).length = _
    rw [longG_len a bs, List.length_set]
theorem ripeG_len {L0 : List SL} {sh : List (List Int)} {x : Int} : ∀ (a : Nat) (bs : List (Option (Nat × Int))) (L : List SL), (ripeG L0 sh x L a bs).length = L.length
  | 0, _, L => by cases ‹List (Option (Nat × Int))› <;> rfl
  | a + 1, [], L => rfl
  | a + 1, b :: bs, L => by
    show (ripeG L0 sh x (L.set a _) a bs).length = _
    rw [ripeG_len a bs, List.length_set]
theorem grown_len (L : List SL) (bs : List (Option (Nat × Int))) (c : Nat) (x : Int) : (grown L bs c x).length = L.length := by
  unfold grown
  rw [ripeG_len, longG_len]
theorem chG_len (L : List SL) (x : Int) : ∀ (a : Nat) (m : Option Int), (chG L x a m).length = a
  | 0, _ => rfl
  | a + 1, m => by
    show (chG L x a _).length + 1 = _
    rw [chG_len L x a]
/-- a found string is in the list -/
def At (ss : SL) (b : Option (Nat × Int)) : Prop := ∀ i l, b = some (i, l) → ∃ j, ss[i]? = some (l, j)
theorem bestGo_at (p : Int × Int → Bool) (ss : SL) : ∀ (r : SL) (k : Nat) (b : Option (Nat × Int)), ss.drop k = r → At ss b → At ss (bestGo p r k b)
  | [], _, b, _, h => h
  | s :: r, k, b, hd, h => by
    have e : ss[k]? = some s := by
      have := List.getElem?_drop (xs := ss) (i := k) (j := 0)
      rw [hd] at this
      simpa using this.symm
    refine bestGo_at p ss r (k + 1) _ ?_ ?_
    · rw [← List.drop_drop, hd]
      rfl
    · split
      · intro i l e2
        cases e2
        exact ⟨s.2, e⟩
      · exact h
theorem at_none (ss : SL) : At ss none := fun i l e => by cases e
/-- each list as it grows: at most one string more -/
def szL (L : List SL) (n : Nat) : Prop := ∀ a, (L.getD a []).length ≤ n
theorem long1_le (b : Option (Nat × Int)) (ss : SL) : (long1 b ss).length ≤ ss.length + 1 := by
  unfold long1
  split
  · simp
  · rw [List.length_set]; omega
theorem getD_set {α : Type} (L : List α) (d : α) (i j : Nat) (y : α) : (L.set i y).getD j d = if i = j ∧ i < L.length then y else L.getD j d := by
  rw [List.getD_eq_getElem?_getD, List.getD_eq_getElem?_getD, List.getElem?_set]
  by_cases e : i = j
  · subst e
    by_cases h : i < L.length
    · simp [h]
    · simp [h, List.getElem?_eq_none (Nat.le_of_not_lt h)]
  · simp [e]
theorem longG_sz {n : Nat} : ∀ (a : Nat) (bs : List (Option (Nat × Int))) (L : List SL), (∀ j, (L.getD j []).length ≤ n + 1) → (∀ j, j < a → (L.getD j []).length ≤ n) → szL (longG L a bs) (n + 1)
  | 0, _, L, h, _ => by cases ‹List (Option (Nat × Int))› <;> exact h
  | a + 1, [], L, h, _ => h
  | a + 1, b :: bs, L, h, h2 => by
    refine longG_sz a bs _ (fun j => ?_) fun j hj => ?_
    · rw [getD_set]
      split
      · have := long1_le b (L.getD a [])
        have := h2 a (by omega)
        omega
      · exact h j
    · rw [getD_set, if_neg (by omega)]
      exact h2 j (by omega)
theorem ripeG_sz {L0 : List SL} {sh : List (List Int)} {x : Int} {n : Nat} : ∀ (a : Nat) (bs : List (Option (Nat × Int))) (L : List SL), szL L n → szL (ripeG L0 sh x L a bs) n
  | 0, _, L, h => by cases ‹List (Option (Nat × Int))› <;> exact h
  | a + 1, [], L, h => h
  | a + 1, b :: bs, L, h => by
    refine ripeG_sz a bs _ fun j => ?_
    rw [getD_set]
    split
    · rw [List.length_set]; exact h a
    · exact h j
theorem grown_sz {L : List SL} {n : Nat} (h : szL L n) (bs : List (Option (Nat × Int))) (c : Nat) (x : Int) : szL (grown L bs c x) (n + 1) :=
  ripeG_sz c bs _ (longG_sz c bs L (fun j => by have := h j; omega) fun j _ => h j)
/-- where the changed strings stand -/
def plG (L : List SL) : Nat → List (Option (Nat × Int)) → List Nat
  | a + 1, b :: bs => plc b (L.getD a []) :: plG L a bs
  | _, _ => []
def AtG (L : List SL) : Nat → List (Option (Nat × Int)) → Prop
  | a + 1, b :: bs => At (L.getD a []) b ∧ AtG L a bs
  | _, _ => True
theorem plG_set (L : List SL) (y : SL) : ∀ (a m : Nat) (bs : List (Option (Nat × Int))), a ≤ m → plG (L.set m y) a bs = plG L a bs
  | 0, m, bs, _ => by cases bs <;> rfl
  | a + 1, m, [], _ => rfl
  | a + 1, m, b :: bs, h => by
    show plc b ((L.set m y).getD a []) :: plG (L.set m y) a bs = plc b (L.getD a []) :: plG L a bs
    rw [getD_set, if_neg (by omega), plG_set L y a m bs (by omega)]
theorem AtG_set (L : List SL) (y : SL) : ∀ (a m : Nat) (bs : List (Option (Nat × Int))), a ≤ m → AtG L a bs → AtG (L.set m y) a bs
  | 0, m, bs, _, _ => by cases bs <;> trivial
  | a + 1, m, [], _, _ => trivial
  | a + 1, m, b :: bs, h, h2 => by
    refine ⟨?_, AtG_set L y a m bs (by omega) h2.2⟩
    rw [getD_set, if_neg (by omega)]
    exact h2.1
theorem AtG_chG (L : List SL) (x : Int) : ∀ (a : Nat) (m : Option Int), AtG L a (chG L x a m)
  | 0, _ => trivial
  | a + 1, m => ⟨bestGo_at _ _ _ 0 none rfl (at_none _), AtG_chG L x a _⟩
theorem long1_at {ss : SL} {b : Option (Nat × Int)} (h : At ss b) : (long1 b ss)[plc b ss]? = some (nlen b, 0) := by
  unfold long1 plc nlen
  cases b with
  | none => simp
  | some q =>
    obtain ⟨i, l⟩ := q
    obtain ⟨j, e⟩ := h i l rfl
    have hi : i < ss.length := (List.getElem?_eq_some_iff.mp e).1
    simp [hi]
theorem longG_row (L : List SL) : ∀ (a : Nat) (bs : List (Option (Nat × Int))) (j : Nat), a ≤ j → (longG L a bs).getD j [] = L.getD j []
  | 0, bs, j, _ => by cases bs <;> rfl
  | a + 1, [], j, _ => rfl
  | a + 1, b :: bs, j, h => by
    show (longG (L.set a _) a bs).getD j [] = _
    rw [longG_row _ a bs j (by omega), getD_set, if_neg (by omega)]
/-- the lists below a, made longer -/
def LgG (L0 L : List SL) : Nat → List (Option (Nat × Int)) → Prop
  | a + 1, b :: bs => L.getD a [] = long1 b (L0.getD a []) ∧ LgG L0 L a bs
  | _, _ => True
theorem LgG_set {L0 L : List SL} (y : SL) : ∀ (a m : Nat) (bs : List (Option (Nat × Int))), a ≤ m → LgG L0 L a bs → LgG L0 (L.set m y) a bs
  | 0, m, bs, _, _ => by cases bs <;> trivial
  | a + 1, m, [], _, _ => trivial
  | a + 1, m, b :: bs, h, h2 => by
    refine ⟨?_, LgG_set y a m bs (by omega) h2.2⟩
    rw [getD_set, if_neg (by omega)]
    exact h2.1
theorem LgG_congr {L0 L0' L : List SL} : ∀ (a : Nat) (bs : List (Option (Nat × Int))), (∀ j, j < a → L0.getD j [] = L0'.getD j []) → LgG L0 L a bs → LgG L0' L a bs
  | 0, bs, _, _ => by cases bs <;> trivial
  | a + 1, [], _, _ => trivial
  | a + 1, b :: bs, h, h2 => ⟨by rw [h2.1, h a (by omega)], LgG_congr a bs (fun j hj => h j (by omega)) h2.2⟩
theorem LgG_long (L : List SL) : ∀ (a : Nat) (bs : List (Option (Nat × Int))), a ≤ L.length → LgG L (longG L a bs) a bs
  | 0, bs, _ => by cases bs <;> trivial
  | a + 1, [], _ => trivial
  | a + 1, b :: bs, h => by
    refine ⟨?_, ?_⟩
    · show (longG (L.set a _) a bs).getD a [] = _
      rw [longG_row _ a bs a (Nat.le_refl _), getD_set, if_pos ⟨rfl, by omega⟩]
    · exact LgG_congr a bs (fun j hj => by rw [getD_set, if_neg (by omega)]) (LgG_long (L.set a (long1 b (L.getD a []))) a bs (by rw [List.length_set]; omega))
end DL
namespace DL
open PySem L2
/-! ### lists_of, walked -/
theorem tl_map {α : Type} {q : Pat} {fe : Sig → AH → Res DV} {δ : Sig} {S : AH} {ck : AH → Prop} (hck : ck S) (f g : α → PV) : ∀ rs : List α, (∀ r ∈ rs, ∃ δ2, q.set (.p (f r)) δ = some δ2 ∧ fe δ2 S = .ok (.p (g r)) S) → lcGo ck q dYes fe δ (dit (rs.map f)) S = .ok (rs.map g) S
  | [], _ => lc_nil hck
  | r :: rs, h => by
    obtain ⟨δ2, h1, h2⟩ := h r List.mem_cons_self
    rw [List.map_cons, dit_cons, lc_take hck h1 rfl h2, tl_map hck f g rs fun y hy => h y (List.mem_cons_of_mem _ hy)]
    rfl
theorem tl_dic {ck : AH → Prop} {q : Pat} {fe : Sig → AH → Res DV} {δ : Sig} {S : AH} (hck : ck S) (g : Nat → PV) : ∀ {ks : List Nat}, (∀ k ∈ ks, ∃ δ2, q.set (.c k) δ = some δ2 ∧ fe δ2 S = .ok (.p (g k)) S) → lcGo ck q dYes fe δ (dic ks) S = .ok (ks.map g) S
  | [], _ => lc_nil hck
  | k :: ks, h => by
    obtain ⟨δ2, h1, h2⟩ := h k List.mem_cons_self
    rw [dic_cons, lc_take hck h1 rfl h2, tl_dic hck g fun y hy => h y (List.mem_cons_of_mem _ hy)]
    rfl
theorem bx_ok {ls : List Int} (hl : ls.length ≤ 1000) (k : Int) (S : AH) : d_boxes_to [.p (tupI ls), .p (.int k)] S = .ok (.p (.int (bx ls k))) S := by
  have hz : (dit (ls.map PV.int)).length ≤ 16777216 := by rw [dit_len, List.length_map]; omega
  have lc : lcGo ckT (.nm 2) dYes (dApp minO2 (dCons (dVar 1) (dCons (dVar 2) dNil))) [some (.p (.tup (ls.map PV.int))), some (.p (.int k)), none] (dit (ls.map PV.int)) S = .ok (ls.map fun m => .int (if m < k then m else k)) S :=
    tl_map trivial PV.int (fun m => .int (if m < k then m else k)) ls fun m hm => ⟨_, rfl, by simp⟩
  have sm : sumO [.p (.lst (ls.map fun m => .int (if m < k then m else k)))] S = some (.p (.int (bx ls k)), S) := by
    have := sumO_lst (ns := ls.map fun m => if m < k then m else k) (S := S)
    rw [List.map_map] at this
    exact this
  simp only [tupI]
  simp [d_boxes_to, b_boxes_to_, ev_kLc hz, wipeD]
  rw [lc]
  simp [sm]
def shV (sh : List (List Int)) : PV := .tup (sh.map tupI)
theorem sh_at {sh : List (List Int)} {i : Nat} (h : i < sh.length) (S : AH) : ixO (.p (shV sh)) (.p (.int (i : Int))) S = some (.p (tupI (sh.getD i [])), S) := ixO_tup (atI_at (by omega) (by
  rw [Int.toNat_natCast, List.getElem?_map, List.getElem?_eq_getElem h]
  simp [List.getD, h]))
theorem vac_ok {sh : List (List Int)} (h3 : sh.length = 3) (hl : ∀ j, (sh.getD j []).length ≤ 1000) {a : Nat} (a1 : 1 ≤ a) (a3 : a ≤ 3) (k x : Int) (S : AH) : d_vacancy [.p (shV sh), .p (.int (a : Int)), .p (.int k), .p (.int x)] S = .ok (.p (.int (vac sh a k x))) S := by
  have i0 : ∀ S, ixO (.p (shV sh)) (.p (.int 0)) S = some (.p (tupI (sh.getD 0 [])), S) := fun S => sh_at (i := 0) (sh := sh) (by omega) S
  have i1 : ∀ S, ixO (.p (shV sh)) (.p (.int 1)) S = some (.p (tupI (sh.getD 1 [])), S) := fun S => sh_at (i := 1) (sh := sh) (by omega) S
  have i2 : ∀ S, ixO (.p (shV sh)) (.p (.int 2)) S = some (.p (tupI (sh.getD 2 [])), S) := fun S => sh_at (i := 2) (sh := sh) (by omega) S
  have b0 := bx_ok (hl 0) k
  have b1 := bx_ok (hl 1) k
  have b2 := bx_ok (hl 2) k
  have m2 : ∀ (i : Int) (S : AH), mulO1 (.p (.int 2)) (.p (.int i)) S = some (.p (.int (2 * i)), S) := fun i S => mulO1_int (mulOk_l (by decide))
  have : a = 1 ∨ a = 2 ∨ a = 3 := by omega
  rcases this with rfl | rfl | rfl
  · show _ = Res.ok (DV.p (PV.int (x - 2 * bx (sh.getD 0 []) k + bx (sh.getD 1 []) k))) S
    generalize bx (sh.getD 0 []) k = B0 at *
    generalize bx (sh.getD 1 []) k = B1 at *
    generalize tupI (sh.getD 0 []) = U0 at *
    generalize tupI (sh.getD 1 []) = U1 at *
    generalize shV sh = V at *
    simp [d_vacancy, b_vacancy_, i0, i1, b0, b1, m2]
  · show _ = Res.ok (DV.p (PV.int (bx (sh.getD 0 []) k - 2 * bx (sh.getD 1 []) k + bx (sh.getD 2 []) k))) S
    generalize bx (sh.getD 0 []) k = B0 at *
    generalize bx (sh.getD 1 []) k = B1 at *
    generalize bx (sh.getD 2 []) k = B2 at *
    generalize tupI (sh.getD 0 []) = U0 at *
    generalize tupI (sh.getD 1 []) = U1 at *
    generalize tupI (sh.getD 2 []) = U2 at *
    generalize shV sh = V at *
    simp [d_vacancy, b_vacancy_, i0, i1, i2, b0, b1, b2, m2]
  · show _ = Res.ok (DV.p (PV.int (bx (sh.getD 1 []) k - 2 * bx (sh.getD 2 []) k + 0))) S
    generalize bx (sh.getD 1 []) k = B1 at *
    generalize bx (sh.getD 2 []) k = B2 at *
    generalize tupI (sh.getD 1 []) = U1 at *
    generalize tupI (sh.getD 2 []) = U2 at *
    generalize shV sh = V at *
    simp [d_vacancy, b_vacancy_, i1, i2, b1, b2, m2]
def rowP (L : List SL) : List (List PV) := L.map fun ss => ss.map pairP
def LV (L : List SL) : PV := .lst ((rowP L).map PV.lst)
theorem rowP_at (L : List SL) (i : Nat) : (rowP L).getD i [] = (L.getD i []).map pairP := by
  unfold rowP
  rw [List.getD_eq_getElem?_getD, List.getD_eq_getElem?_getD, List.getElem?_map]
  cases L[i]? <;> rfl
theorem rowP_set (L : List SL) (i : Nat) (ss : SL) : (rowP L).set i (ss.map pairP) = rowP (L.set i ss) := by
  unfold rowP
  rw [List.map_set]
theorem rowP_len (L : List SL) : (rowP L).length = L.length := List.length_map _
theorem inner_len (ss : SL) (hz : ss.length ≤ 1000) (δ : Sig) (S : AH) (ck : AH → Prop) (hck : ck S) {a b c d : Option DV} : lcGo ck (.tp [(.nm 1), (.nm 2)]) dYes (dVar 1) [a, b, c, d] (dit (ss.map pairP)) S = .ok (ss.map fun p => .int p.1) S :=
  tl_map hck pairP (fun p => .int p.1) ss fun p hp => ⟨_, rfl, by simp⟩
theorem len_lst {L : List SL} (h3 : L.length ≤ 1000) (hl : szL L 1000) (S : AH) : d_lengths_in [.p (LV L)] S = .ok (.p (shV (shp L))) S := by
  have hz : (dit ((rowP L).map PV.lst)).length ≤ 16777216 := by rw [dit_len, List.length_map, rowP_len]; omega
  have lc : lcGo ckT (.nm 3) dYes (dApp tupleO (dCons (dVal (dLc (dSeqI (dVar 3)) (.tp [(.nm 1), (.nm 2)]) dYes (dVar 1) [1, 2])) dNil)) [some (.p (LV L)), none, none, none] (dit (L.map fun ss => .lst (ss.map pairP))) S = .ok (L.map fun ss => tupI (ss.map (·.1))) S :=
    tl_map trivial (fun ss : SL => .lst (ss.map pairP)) (fun ss => tupI (ss.map (·.1))) L fun ss hs => by
      obtain ⟨i, hi, rfl⟩ := List.mem_iff_getElem.mp hs
      have z : (L[i]).length ≤ 1000 := by
        have := hl i
        rwa [List.getD_eq_getElem?_getD, List.getElem?_eq_getElem hi] at this
      have hz2 : (dit ((L[i]).map pairP)).length ≤ 16777216 := by rw [dit_len, List.length_map]; omega
      refine ⟨_, rfl, ?_⟩
      simp [ev_kLc hz2, wipeD]
      rw [inner_len _ z [] S ckT trivial]
      simp [List.map_map, Function.comp_def, tupI]
  have e : (rowP L).map PV.lst = L.map fun ss => .lst (ss.map pairP) := by unfold rowP; rw [List.map_map]; rfl
  rw [e] at hz
  simp only [LV, e] at lc ⊢
  simp [-List.map_map, d_lengths_in, b_lengths_in_, ev_kLc hz, wipeD]
  rw [lc]
  simp only [shV, shp]
  rw [List.map_map]
  simp [-List.map_map]
theorem len_nest {R S : AH} {n : Nat} {L : List SL} (Ne : Nest R S n (rowP L)) (h3 : L.length ≤ 1000) (hl : szL L 1000) : d_lengths_in [.c n] S = .ok (.p (shV (shp L))) S := by
  obtain ⟨ks, N⟩ := Ne
  have kl : ks.length = L.length := by rw [N.len, rowP_len]
  have hz : (dic ks).length ≤ 16777216 := by rw [dic_len]; omega
  simp [d_lengths_in, b_lengths_in_, ev_kSeqI_n N.nst, ev_kLc hz]
  rw [tl_dic (by exact N.nst) (fun k => match S[k]? with | some (.lst xs) => (match pairsP xs with | some ps => tupI (ps.map (·.1)) | none => .non) | _ => .non) (fun k hk => by
    obtain ⟨j, hj⟩ := List.mem_iff_getElem?.mp hk
    have e := N.row j k hj
    rw [rowP_at] at e
    have z := hl j
    generalize L.getD j [] = ss at *
    have hz2 : (dit (ss.map pairP)).length ≤ 16777216 := by rw [dit_len, List.length_map]; omega
    refine ⟨_, rfl, ?_⟩
    simp [wipeD, ev_kSeqI_c e, ev_kLc hz2]
    rw [inner_len _ z [] S _ (by exact e)]
    simp [e, pairsP_map, tupI, List.map_map, Function.comp_def])]
  have e : ks.map (fun k => match S[k]? with | some (.lst xs) => (match pairsP xs with | some ps => tupI (ps.map (·.1)) | none => PV.non) | _ => .non) = (shp L).map tupI := by
    refine List.ext_getElem (by simp [shp, kl]) fun i h1 h2 => ?_
    have hi : i < ks.length := by simpa using h1
    have hr : i < L.length := by rw [← kl]; exact hi
    have e := N.row i ks[i] (List.getElem?_eq_getElem hi)
    rw [rowP_at] at e
    simp only [List.getElem_map, e, pairsP_map]
    simp [shp, hr]
  rw [e]
  simp [shV]
/-! ### chosen_for -/
theorem seq_st {f g : Sig → AH → Out} {δ δ1 : Sig} {S S1 : AH} {o : Out} (h : f δ S = .nx δ1 S1) (h2 : g δ1 S1 = o) : dSeq f g δ S = o := by
  rw [ev_seq, h, seq_nx, h2]
def ixV (b : Option (Nat × Int)) : PV := .int (b.elim (-1) fun q => (q.1 : Int))
def mostV : Option Int → PV
  | none => .non
  | some m => .int m
theorem LV_at {L : List SL} {i : Nat} (h : i < L.length) (S : AH) : ixO (.p (LV L)) (.p (.int (i : Int))) S = some (.p (.lst ((L.getD i []).map pairP)), S) := ixO_lst (atI_at (by omega) (by
  rw [Int.toNat_natCast, List.getElem?_map]
  unfold rowP
  rw [List.getElem?_map, List.getElem?_eq_getElem h]
  simp [List.getD, h]))
theorem str_at {ss : SL} {i : Nat} {l j : Int} (h : ss[i]? = some (l, j)) (S : AH) : ixO (.p (.lst (ss.map pairP))) (.p (.int (i : Int))) S = some (.p (pairP (l, j)), S) := ixO_lst (atI_at (by omega) (by
  rw [Int.toNat_natCast, List.getElem?_map, h]
  rfl))
theorem pair_0 (p : Int × Int) (S : AH) : ixO (.p (pairP p)) (.p (.int 0)) S = some (.p (.int p.1), S) := ixO_tup rfl
theorem ch_inner {L : List SL} (h3 : L.length = 3) (hl : szL L 1000) {a : Nat} (a1 : 1 ≤ a) (a3 : a ≤ 3) {x : Int} {most : Option Int} {ss : SL} (hs : ss.length ≤ 1000) (T0 T1 T4 : Option DV) (S : AH) : ∀ (r : SL) (k : Nat) (b : Option (Nat × Int)) (d9 d10 d11 : Option DV), ss.drop k = r → At ss b → ∃ e9 e10 e11,
    forGo ckT (.nm 9) L0_chosen_for (rangeI (k : Int) r.length) [T0, T1, some (.p (.int x)), some (.p (shV (shp L))), T4, some (.p (mostV most)), some (.p (.int (a : Int))), some (.p (.lst (ss.map pairP))), some (.p (ixV b)), d9, d10, d11] S = .nx [T0, T1, some (.p (.int x)), some (.p (shV (shp L))), T4, some (.p (mostV most)), some (.p (.int (a : Int))), some (.p (.lst (ss.map pairP))), some (.p (ixV (bestGo (okS L a x most) r k b))), e9, e10, e11] S
  | [], k, b, d9, d10, d11, _, _ => ⟨d9, d10, d11, by simp [range0, bestGo]⟩
  | s :: r, k, b, d9, d10, d11, hd, hb => by
    have es : ss[k]? = some s := by
      have := List.getElem?_drop (xs := ss) (i := k) (j := 0)
      rw [hd] at this
      simpa using this.symm
    have hd' : ss.drop (k + 1) = r := by
      rw [← List.drop_drop, hd]
      rfl
    have at1 : At ss (if okS L a x most s = true ∧ (b.all fun q => decide (q.2 < s.1)) = true then some (k, s.1) else b) := by
      split
      · intro i l e2
        cases e2
        exact ⟨s.2, es⟩
      · exact hb
    obtain ⟨e9, e10, e11, e⟩ := ch_inner h3 hl a1 a3 (x := x) (most := most) hs T0 T1 T4 S r (k + 1) _ (some (.p (.int (k : Int)))) (some (.p (.int s.1))) (some (.p (.int s.2))) hd' at1
    refine ⟨e9, e10, e11, ?_⟩
    have shl : (shp L).length = 3 := by unfold shp; rw [List.length_map, h3]
    have shz : ∀ j, ((shp L).getD j []).length ≤ 1000 := fun j => by
      have := hl j
      unfold shp
      rw [List.getD_eq_getElem?_getD, List.getElem?_map]
      rw [List.getD_eq_getElem?_getD] at this
      cases q : L[j]? with
      | none => simp
      | some z => rw [q] at this; simpa using this
    have vk := vac_ok shl shz a1 a3 s.1 x
    have ix := str_at es
    have st : L0_chosen_for ([T0, T1, some (.p (.int x)), some (.p (shV (shp L))), T4, some (.p (mostV most)), some (.p (.int (a : Int))), some (.p (.lst (ss.map pairP))), some (.p (ixV b)), d9, d10, d11].set 9 (some (.p (.int (k : Int))))) S = .nx [T0, T1, some (.p (.int x)), some (.p (shV (shp L))), T4, some (.p (mostV most)), some (.p (.int (a : Int))), some (.p (.lst (ss.map pairP))), some (.p (ixV (if okS L a x most s = true ∧ (b.all fun q => decide (q.2 < s.1)) = true then some (k, s.1) else b))), some (.p (.int (k : Int))), some (.p (.int s.1)), some (.p (.int s.2))] S := by
      have pb : ∀ i l, b = some (i, l) → ∃ j, ∀ S, ixO (.p (.lst (ss.map pairP))) (.p (.int (i : Int))) S = some (.p (pairP (l, j)), S) := fun i l e2 => by
        obtain ⟨j, e3⟩ := hb i l e2
        exact ⟨j, fun S => str_at e3 S⟩
      unfold okS
      generalize vac (shp L) a s.1 x = v at *
      generalize shV (shp L) = V at *
      generalize ss.map pairP = U at *
      obtain ⟨s1, s2⟩ := s
      unfold L0_chosen_for
      refine seq_st (δ1 := [T0, T1, some (.p (.int x)), some (.p V), T4, some (.p (mostV most)), some (.p (.int (a : Int))), some (.p (.lst U)), some (.p (ixV b)), some (.p (.int (k : Int))), some (.p (.int s1)), some (.p (.int s2))]) (S1 := S) ?_ ?_
      · simp [ix, pairP]
        exact ev_jAsg rfl
      have inn : ∀ c8 : PV, c8 = ixV b → s2 = v → dIf (dOr (blOf (dBin ltO (dVar 8) (dC (.int 0)))) (blOf (dBin gtO (dVar 10) (dBin ixO (dBin ixO (dVar 7) (dVar 8)) (dC (.int 0)))))) (dSet 8 (dVar 9)) dPass [T0, T1, some (.p (.int x)), some (.p V), T4, some (.p (mostV most)), some (.p (.int (a : Int))), some (.p (.lst U)), some (.p c8), some (.p (.int (k : Int))), some (.p (.int s1)), some (.p (.int s2))] S =
          .nx [T0, T1, some (.p (.int x)), some (.p V), T4, some (.p (mostV most)), some (.p (.int (a : Int))), some (.p (.lst U)), some (.p (ixV (if (b.all fun q => decide (q.2 < s1)) = true then some (k, s1) else b))), some (.p (.int (k : Int))), some (.p (.int s1)), some (.p (.int s2))] S := fun c8 hc _ => by
        subst hc
        cases b with
        | none => simp [ixV]
        | some q =>
          obtain ⟨i, l⟩ := q
          obtain ⟨j, pi⟩ := pb i l rfl
          have p0 := pair_0 (l, j)
          have ni : ¬ (i : Int) < 0 := by omega
          by_cases c : l < s1
          · simp [ixV, ni, pi, p0, c]
          · simp [ixV, ni, pi, p0, c]
      cases most with
      | none =>
        by_cases c : s2 = v
        · have := inn _ rfl c
          simp only [mostV] at this ⊢
          simp [vk, c] at this ⊢
          exact this
        · simp [mostV, vk, c]
      | some m =>
        by_cases d : s1 ≤ m
        · by_cases c : s2 = v
          · have := inn _ rfl c
            simp only [mostV] at this ⊢
            simp [vk, c, d] at this ⊢
            exact this
          · simp [mostV, vk, c, d]
        · simp [mostV, d]
    rw [List.length_cons, range_succ, for_nm, st, after_nx]
    exact e
theorem tC_succ {lo c : Int} {n : Nat} : rangeC lo c (n + 1) = .p (.int lo) :: rangeC (lo + c) c n := by
  unfold rangeC
  rw [List.range_succ_eq_map, List.map_cons, List.map_map]
  congr 1
  · simp
  · refine List.map_congr_left fun i _ => ?_
    simp only [Function.comp]
    congr 2
    rw [show ((i.succ : Nat) : Int) = (i : Int) + 1 by omega, Int.add_mul]
    omega
theorem ch_outer {L : List SL} (h3 : L.length = 3) (hl : szL L 1000) (x : Int) (T1 : Option DV) (S : AH) : ∀ (a : Nat) (most : Option Int) (acc : List PV) (d6 d7 d8 d9 d10 d11 : Option DV), a ≤ 3 → acc.length + a ≤ 100 → ∃ e5 e6 e7 e8 e9 e10 e11,
    forGo ckT (.nm 6) L1_chosen_for (rangeC (a : Int) (-1) a) [some (.p (LV L)), T1, some (.p (.int x)), some (.p (shV (shp L))), some (.c S.length), some (.p (mostV most)), d6, d7, d8, d9, d10, d11] (S ++ [.lst acc]) = .nx [some (.p (LV L)), T1, some (.p (.int x)), some (.p (shV (shp L))), some (.c S.length), e5, e6, e7, e8, e9, e10, e11] (S ++ [.lst (acc ++ (chG L x a most).map ixV)])
  | 0, most, acc, d6, d7, d8, d9, d10, d11, _, _ => ⟨some (.p (mostV most)), d6, d7, d8, d9, d10, d11, by
    show forGo ckT (.nm 6) L1_chosen_for [] _ _ = _
    rw [for_nil]
    simp [chG]⟩
  | a + 1, most, acc, d6, d7, d8, d9, d10, d11, ha, hz => by
    obtain ⟨f9, f10, f11, e1⟩ := ch_inner h3 hl (a := a + 1) (by omega) ha (x := x) (most := most) (ss := L.getD a []) (hl a) (some (.p (LV L))) T1 (some (.c S.length)) (S ++ [.lst acc]) (L.getD a []) 0 none d9 d10 d11 rfl (at_none _)
    obtain ⟨e5, e6, e7, e8, e9, e10, e11, e⟩ := ch_outer h3 hl x T1 S a (some ((bestGo (okS L (a + 1) x most) (L.getD a []) 0 none).elim 0 (·.2))) (acc ++ [ixV (bestGo (okS L (a + 1) x most) (L.getD a []) 0 none)]) (some (.p (.int ((a + 1 : Nat) : Int)))) (some (.p (.lst ((L.getD a []).map pairP)))) (some (.p (ixV (bestGo (okS L (a + 1) x most) (L.getD a []) 0 none)))) f9 f10 f11 (by omega) (by rw [List.length_append, List.length_singleton]; omega)
    refine ⟨e5, e6, e7, e8, e9, e10, e11, ?_⟩
    have lx := fun S => LV_at (L := L) (i := a) (by omega) S
    have at1 := bestGo_at (okS L (a + 1) x most) (L.getD a []) (L.getD a []) 0 none rfl (at_none _)
    have rg := rg_len (L.getD a []).length (by have := hl a; omega)
    have e1 : forGo ckT (.nm 9) L0_chosen_for (rangeI 0 (L.getD a []).length) _ _ = _ := e1
    have ap : ∀ y : PV, appendM (.c S.length) [.p y] (S ++ [.lst acc]) = some (.p .non, S ++ [.lst (acc ++ [y])]) := fun y => append_last (by omega)
    have sub : ((a + 1 : Nat) : Int) - 1 = (a : Int) := by omega
    have cg : chG L x (a + 1) most = bestGo (okS L (a + 1) x most) (L.getD a []) 0 none :: chG L x a (some ((bestGo (okS L (a + 1) x most) (L.getD a []) 0 none).elim 0 (·.2))) := rfl
    rw [tC_succ, for_nm]
    have st : L1_chosen_for ([some (.p (LV L)), T1, some (.p (.int x)), some (.p (shV (shp L))), some (.c S.length), some (.p (mostV most)), d6, d7, d8, d9, d10, d11].set 6 (some (.p (.int ((a + 1 : Nat) : Int))))) (S ++ [.lst acc]) = .nx [some (.p (LV L)), T1, some (.p (.int x)), some (.p (shV (shp L))), some (.c S.length), some (.p (mostV (some ((bestGo (okS L (a + 1) x most) (L.getD a []) 0 none).elim 0 (·.2))))), some (.p (.int ((a + 1 : Nat) : Int))), some (.p (.lst ((L.getD a []).map pairP))), some (.p (ixV (bestGo (okS L (a + 1) x most) (L.getD a []) 0 none))), f9, f10, f11] (S ++ [.lst (acc ++ [ixV (bestGo (okS L (a + 1) x most) (L.getD a []) 0 none)])]) := by
      unfold L1_chosen_for
      generalize bestGo (okS L (a + 1) x most) (L.getD a []) 0 none = B at *
      generalize hU : (L.getD a []).map pairP = U at *
      have ul : (U.length : Int) = ((L.getD a []).length : Int) := by rw [← hU, List.length_map]
      generalize hN : (L.getD a []).length = N at *
      generalize shV (shp L) = V at *
      generalize LV L = LL at *
      generalize ((a + 1 : Nat) : Int) = A at *
      refine seq_st (δ1 := [some (.p LL), T1, some (.p (.int x)), some (.p V), some (.c S.length), some (.p (mostV most)), some (.p (.int A)), some (.p (.lst U)), d8, d9, d10, d11]) (S1 := S ++ [.lst acc]) (by simp [sub, lx]) ?_
      refine seq_st (δ1 := [some (.p LL), T1, some (.p (.int x)), some (.p V), some (.c S.length), some (.p (mostV most)), some (.p (.int A)), some (.p (.lst U)), some (.p (.int (-1))), d9, d10, d11]) (S1 := S ++ [.lst acc]) (by simp) ?_
      refine seq_st (δ1 := [some (.p LL), T1, some (.p (.int x)), some (.p V), some (.c S.length), some (.p (mostV most)), some (.p (.int A)), some (.p (.lst U)), some (.p (ixV B)), f9, f10, f11]) (S1 := S ++ [.lst acc]) (by simp [ul, rg]; exact e1) ?_
      refine seq_st (δ1 := [some (.p LL), T1, some (.p (.int x)), some (.p V), some (.c S.length), some (.p (mostV (some (B.elim 0 (·.2))))), some (.p (.int A)), some (.p (.lst U)), some (.p (ixV B)), f9, f10, f11]) (S1 := S ++ [.lst acc]) ?_ ?_
      · cases B with
        | none => simp [ixV, mostV]
        | some q =>
          obtain ⟨i, l⟩ := q
          obtain ⟨j, e3⟩ := at1 i l rfl
          have pi := fun S => str_at e3 S
          rw [hU] at pi
          have p0 := pair_0 (l, j)
          have ni : ¬ (i : Int) < 0 := by omega
          simp [ixV, mostV, ni, pi, p0]
      · simp [ap]
    rw [st, after_nx, show ((a + 1 : Nat) : Int) + -1 = (a : Int) by omega, e, cg, List.map_cons, List.append_assoc]
    rfl
theorem rngDn {fs : Sig → AH → Res (List DV)} {δ : Sig} {S S1 : AH} {n : Nat} (hn : n ≤ 1000) (h : fs δ S = .ok [.p (.int (n : Int)), .p (.int 0), .p (.int (-1))] S1) : dRng3 fs δ S = .ok (rangeC (n : Int) (-1) n, ckT) S1 := by
  unfold dRng3
  rw [h]
  show (if (-1 : Int) = -1 ∧ small62 (n : Int) ∧ small62 0 then Res.ok (rangeC (n : Int) (-1) ((n : Int) - 0).toNat, fun _ => True) S1 else .bad) = _
  rw [if_pos ⟨rfl, ⟨by omega, by omega⟩, ⟨by omega, by omega⟩⟩, show ((n : Int) - 0).toNat = n by omega]
theorem ch_ok {L : List SL} (h3 : L.length = 3) (hl : szL L 1000) (x : Int) {c : Nat} (c1 : 1 ≤ c) (c3 : c ≤ 3) (S : AH) : d_chosen_for [.p (LV L), .p (.int (c : Int)), .p (.int x)] S = .ok (.p (.lst ((chosen L c x).map ixV))) S := by
  obtain ⟨e5, e6, e7, e8, e9, e10, e11, e⟩ := ch_outer h3 hl x (some (.p (.int (c : Int)))) S c none [] none none none none none none c3 (by simp; omega)
  rw [List.nil_append] at e
  have ln := len_lst (L := L) (by omega) hl
  refine (dDef_ap rfl).trans ?_
  show gcK S false (b_chosen_for_ [some (.p (LV L)), some (.p (.int (c : Int))), some (.p (.int x)), none, none, none, none, none, none, none, none, none] S) = _
  have body : b_chosen_for_ [some (.p (LV L)), some (.p (.int (c : Int))), some (.p (.int x)), none, none, none, none, none, none, none, none, none] S = .rt (.c S.length) (S ++ [.lst ((chosen L c x).map ixV)]) := by
    unfold b_chosen_for_ chosen
    generalize LV L = LL at *
    generalize shV (shp L) = V at *
    refine seq_st (δ1 := [some (.p LL), some (.p (.int (c : Int))), some (.p (.int x)), some (.p V), none, none, none, none, none, none, none, none]) (S1 := S) (by simp [ln]) ?_
    refine seq_st (δ1 := [some (.p LL), some (.p (.int (c : Int))), some (.p (.int x)), some (.p V), some (.c S.length), none, none, none, none, none, none, none]) (S1 := S ++ [.lst []]) (by simp) ?_
    refine seq_st (δ1 := [some (.p LL), some (.p (.int (c : Int))), some (.p (.int x)), some (.p V), some (.c S.length), some (.p .non), none, none, none, none, none, none]) (S1 := S ++ [.lst []]) (by simp) ?_
    refine seq_st (by rw [ev_for, rngDn (n := c) (S1 := S ++ [.lst []]) (by omega) (by simp), out_ok, ev_jFor]; exact e) ?_
    simp
  rw [body, gc_lst (by simp) (Nat.le_refl _) last_get]
  simp
/-! ### grown -/
theorem Nest.lt {R S : AH} {n : Nat} {rs : List (List PV)} (h : Nest R S n rs) : n < S.length := by
  obtain ⟨ks, h⟩ := h
  exact (List.getElem?_eq_some_iff.mp h.nst).1
theorem Nest.ixa {R S : AH} {n : Nat} {rs : List (List PV)} (h : Nest R S n rs) {i : Nat} (hi : i < rs.length) (J : AH) : ∃ k, k < S.length ∧ ixO (.c n) (.p (.int (i : Int))) (S ++ J) = some (.c k, S ++ J) ∧ S[k]? = some (Cell.lst (rs.getD i [])) ∧ ∀ xs, Nest R (S.set k (.lst xs)) n (rs.set i xs) := by
  obtain ⟨k, h1, h2, h3, h4, h5⟩ := h.ix hi
  have kl : k < S.length := (List.getElem?_eq_some_iff.mp h2).1
  refine ⟨k, kl, ?_, h2, h5⟩
  have nl := h.lt
  obtain ⟨ks, N⟩ := h
  have e : (S ++ J)[n]? = some (.nst ks) := by rw [List.getElem?_append_left nl]; exact N.nst
  unfold ixO items nitems at h1 ⊢
  simp only [N.nst, e] at h1 ⊢
  cases q : atI ks (i : Int) with
  | none => rw [q] at h1; simp at h1
  | some k' => rw [q] at h1; simp at h1; simp [h1]
theorem Nest.app {R S : AH} {n : Nat} {rs : List (List PV)} (h : Nest R S n rs) (J : AH) : Nest R (S ++ J) n rs := by
  have nl := h.lt
  obtain ⟨ks, N⟩ := h
  refine ⟨ks, take_more N.pre, by rw [List.getElem?_append_left nl]; exact N.nst, N.len, N.lo, N.klo, N.nd, N.nk, fun i k e => ?_⟩
  have := N.row i k e
  rw [List.getElem?_append_left (List.getElem?_eq_some_iff.mp this).1]
  exact this
theorem row_at {S J : AH} {k : Nat} {c : Cell} (kl : k < S.length) (h : S[k]? = some c) : (S ++ J)[k]? = some c := by rw [List.getElem?_append_left kl]; exact h
theorem gr0_turn {R N : AH} {n : Nat} {L : List SL} (Ne : Nest R N n (rowP L)) {a st : Nat} (ha : a < L.length) {b : Option (Nat × Int)} (hb : At (L.getD a []) b) (hz : (L.getD a []).length ≤ 900) {ch pl : List PV} (hc : ch[st]? = some (ixV b)) (hp : pl.length = st) (st9 : st ≤ 100) (d0 d3 d5 d8 d9 : Option DV) :
    ∃ N' e5, Nest R N' n (rowP (L.set a (long1 b (L.getD a [])))) ∧ N'.length = N.length ∧
    L0_grown [d0, some (.p (.lst ch)), some (.p (.int ((st : Int) + ((a : Int) + 1)))), d3, some (.c n), d5, some (.c N.length), some (.p (.int (st : Int))), d8, d9] (N ++ [.lst pl]) = .nx [d0, some (.p (.lst ch)), some (.p (.int ((st : Int) + ((a : Int) + 1)))), d3, some (.c n), e5, some (.c N.length), some (.p (.int (st : Int))), d8, d9] (N' ++ [.lst (pl ++ [.int (plc b (L.getD a []) : Nat)])]) := by
  obtain ⟨k, kl, e1, e2, e3⟩ := Ne.ixa (i := a) (by rw [rowP_len]; exact ha) [.lst pl]
  rw [rowP_at] at e2
  have sub : (st : Int) + ((a : Int) + 1) - (st : Int) - 1 = (a : Int) := by omega
  have ic : ∀ S, ixO (.p (.lst ch)) (.p (.int (st : Int))) S = some (.p (ixV b), S) := fun S => ixO_lst (atI_at (by omega) (by rw [Int.toNat_natCast]; exact hc))
  have ap : ∀ (M : AH) (y : PV), M.length = N.length → appendM (.c N.length) [.p y] (M ++ [.lst pl]) = some (.p .non, M ++ [.lst (pl ++ [y])]) := fun M y hM => by
    rw [← hM]
    exact append_last (by omega)
  have kmp : ∀ (M : AH) (o : OpM) (fs : Sig → AH → Res (List DV)) (δ : Sig), M.length = N.length → kMeth o fs δ (.c N.length) (M ++ [.lst pl]) = (fs δ (M ++ [.lst pl])).bind (kMeth2 o (.c N.length)) := fun M o fs δ hM => by
    rw [← hM]
    exact kMeth_last
  have ipl : ∀ (M : AH) (y : PV), M.length = N.length → ixO (.c N.length) (.p (.int (st : Int))) (M ++ [.lst (pl ++ [y])]) = some (.p y, M ++ [.lst (pl ++ [y])]) := fun M y hM => ixO_c (by rw [← hM]; exact last_get) (atI_at (by omega) (by rw [Int.toNat_natCast, ← hp]; simp))
  have kmr : ∀ (o : OpM) (fs : Sig → AH → Res (List DV)) (δ : Sig), kMeth o fs δ (.c k) (N ++ [.lst pl]) = (fs δ (N ++ [.lst pl])).bind (kMeth2 o (.c k)) := fun o fs δ => kMeth_c (row_at kl e2)
  unfold L0_grown
  cases b with
  | none =>
    have NN := e3 ((long1 none (L.getD a [])).map pairP)
    rw [rowP_set] at NN
    refine ⟨N.set k (.lst ((long1 none (L.getD a [])).map pairP)), some (.c k), NN, List.length_set, ?_⟩
    have apr : appendM (.c k) [.p (.tup [.int 0, .int 0])] (N ++ [.lst pl]) = some (.p .non, N.set k (.lst ((L.getD a []).map pairP ++ [.tup [.int 0, .int 0]])) ++ [.lst pl]) := by
      rw [append_c (row_at kl e2) (by rw [List.length_map]; omega), List.set_append_left _ _ kl]
    have hM : (N.set k (.lst ((L.getD a []).map pairP ++ [.tup [.int 0, .int 0]]))).length = N.length := List.length_set
    have rM : ∀ J : AH, (N.set k (.lst ((L.getD a []).map pairP ++ [.tup [.int 0, .int 0]])) ++ J)[k]? = some (.lst ((L.getD a []).map pairP ++ [.tup [.int 0, .int 0]])) := fun J => row_at (by rw [hM]; exact kl) (by rw [List.getElem?_set_self kl])
    have ln : lenO [.c k] (N.set k (.lst ((L.getD a []).map pairP ++ [.tup [.int 0, .int 0]])) ++ [.lst pl]) = some (.p (.int (((L.getD a []).length : Int) + 1)), N.set k (.lst ((L.getD a []).map pairP ++ [.tup [.int 0, .int 0]])) ++ [.lst pl]) := by
      rw [lenO_c (rM _), List.length_append, List.length_map]
      rfl
    have sub1 : ((L.getD a []).length : Int) + 1 - 1 = ((L.getD a []).length : Int) := by omega
    have irow : ∀ J : AH, ixO (.c k) (.p (.int ((L.getD a []).length : Int))) (N.set k (.lst ((L.getD a []).map pairP ++ [.tup [.int 0, .int 0]])) ++ J) = some (.p (.tup [.int 0, .int 0]), N.set k (.lst ((L.getD a []).map pairP ++ [.tup [.int 0, .int 0]])) ++ J) := fun J => ixO_c (rM J) (atI_at (by omega) (by rw [Int.toNat_natCast, List.getElem?_append_right (by rw [List.length_map]; exact Nat.le_refl _), List.length_map, Nat.sub_self]; rfl))
    have i00 : ∀ S, ixO (.p (.tup [.int 0, .int 0])) (.p (.int 0)) S = some (.p (.int 0), S) := fun S => ixO_tup rfl
    have sx : ∀ J : AH, setIx (.c k) (.p (.int ((L.getD a []).length : Int))) (.p (.tup [.int 1, .int 0])) (N.set k (.lst ((L.getD a []).map pairP ++ [.tup [.int 0, .int 0]])) ++ J) = some (N.set k (.lst ((long1 none (L.getD a [])).map pairP)) ++ J) := fun J => by
      rw [setIx_c (rM J) (by rw [List.length_append, List.length_map]; simp), List.set_append_left _ _ (by rw [hM]; exact kl), List.set_set]
      congr 4
      rw [List.set_append_right _ _ (by rw [List.length_map]; exact Nat.le_refl _), List.length_map, Nat.sub_self]
      simp [long1, pairP]
    have ap1 := ap _ (.int ((L.getD a []).length : Int)) hM
    have km1 := fun o fs δ => kmp _ o fs δ hM
    have ip1 := ipl _ (.int ((L.getD a []).length : Int)) hM
    simp only [plc]
    generalize N.set k (.lst ((L.getD a []).map pairP ++ [.tup [.int 0, .int 0]])) = M1 at *
    generalize ((L.getD a []).length : Int) = la at *
    generalize N.set k (.lst ((long1 none (L.getD a [])).map pairP)) = M2 at *
    refine seq_st (δ1 := [d0, some (.p (.lst ch)), some (.p (.int ((st : Int) + ((a : Int) + 1)))), d3, some (.c n), some (.c k), some (.c N.length), some (.p (.int (st : Int))), d8, d9]) (S1 := N ++ [.lst pl]) ?_ ?_
    · generalize hst : (st : Int) + ((a : Int) + 1) = cc at *
      simp [sub, e1]
    generalize (st : Int) + ((a : Int) + 1) = cc at *
    refine seq_st (δ1 := [d0, some (.p (.lst ch)), some (.p (.int cc)), d3, some (.c n), some (.c k), some (.c N.length), some (.p (.int (st : Int))), d8, d9]) (S1 := M1 ++ [.lst (pl ++ [.int la])]) ?_ ?_
    · simp [ic, ixV, kmr, apr, km1, ln, sub1, ap1]
    · simp [ip1, irow, i00, ev_jSub3 (sx _)]
  | some q =>
    obtain ⟨i, l⟩ := q
    obtain ⟨j, ej⟩ := hb i l rfl
    have hi : i < (L.getD a []).length := (List.getElem?_eq_some_iff.mp ej).1
    have NN := e3 ((long1 (some (i, l)) (L.getD a [])).map pairP)
    rw [rowP_set] at NN
    refine ⟨N.set k (.lst ((long1 (some (i, l)) (L.getD a [])).map pairP)), some (.c k), NN, List.length_set, ?_⟩
    have ni : ¬ (i : Int) < 0 := by omega
    have irow : ∀ J : AH, ixO (.c k) (.p (.int (i : Int))) (N ++ J) = some (.p (.tup [.int l, .int j]), N ++ J) := fun J => ixO_c (row_at kl e2) (atI_at (by omega) (by rw [Int.toNat_natCast, List.getElem?_map, ej]; rfl))
    have i00 : ∀ S, ixO (.p (.tup [.int l, .int j])) (.p (.int 0)) S = some (.p (.int l), S) := fun S => ixO_tup rfl
    have sx : ∀ J : AH, setIx (.c k) (.p (.int (i : Int))) (.p (.tup [.int (l + 1), .int 0])) (N ++ J) = some (N.set k (.lst ((long1 (some (i, l)) (L.getD a [])).map pairP)) ++ J) := fun J => by
      rw [setIx_c (row_at kl e2) (by rw [List.length_map]; exact hi), List.set_append_left _ _ kl]
      simp [long1, pairP, List.map_set]
    have ap1 := ap N (.int (i : Int)) rfl
    have km1 := fun o fs δ => kmp N o fs δ rfl
    have ip1 := ipl N (.int (i : Int)) rfl
    simp only [plc]
    generalize N.set k (.lst ((long1 (some (i, l)) (L.getD a [])).map pairP)) = M2 at *
    refine seq_st (δ1 := [d0, some (.p (.lst ch)), some (.p (.int ((st : Int) + ((a : Int) + 1)))), d3, some (.c n), some (.c k), some (.c N.length), some (.p (.int (st : Int))), d8, d9]) (S1 := N ++ [.lst pl]) ?_ ?_
    · generalize hst : (st : Int) + ((a : Int) + 1) = cc at *
      simp [sub, e1]
    generalize (st : Int) + ((a : Int) + 1) = cc at *
    refine seq_st (δ1 := [d0, some (.p (.lst ch)), some (.p (.int cc)), d3, some (.c n), some (.c k), some (.c N.length), some (.p (.int (st : Int))), d8, d9]) (S1 := N ++ [.lst (pl ++ [.int (i : Int)])]) ?_ ?_
    · simp [ic, ixV, ni, km1, ap1]
    · simp [ip1, irow, i00, ev_jSub3 (sx _)]
end DL
namespace DL
open PySem L2
/-! ### grown, lists_of -/
def plV (ps : List Nat) : List PV := ps.map fun (k : Nat) => PV.int (k : Int)
theorem plG_len (L : List SL) : ∀ (a : Nat) (bs : List (Option (Nat × Int))), bs.length = a → (plG L a bs).length = a
  | 0, [], _ => rfl
  | a + 1, b :: bs, h => by
    show (plG L a bs).length + 1 = _
    rw [plG_len L a bs (by simpa using h)]
theorem gr0_loop {R : AH} {n c : Nat} {ch : List PV} (d0 d3 d8 d9 : Option DV) (cz : c ≤ 3) : ∀ (a st : Nat) (bs : List (Option (Nat × Int))) (L : List SL) (N : AH) (pl : List PV) (d5 d7 : Option DV), st + a = c → bs.length = a → ch.drop st = bs.map ixV → Nest R N n (rowP L) → L.length = 3 → (∀ j, j < a → (L.getD j []).length ≤ 900) → AtG L a bs → pl.length = st →
    ∃ N' e5 e7, Nest R N' n (rowP (longG L a bs)) ∧ N'.length = N.length ∧
    forGo ckT (.nm 7) L0_grown (rangeI (st : Int) a) [d0, some (.p (.lst ch)), some (.p (.int (c : Int))), d3, some (.c n), d5, some (.c N.length), d7, d8, d9] (N ++ [.lst pl]) = .nx [d0, some (.p (.lst ch)), some (.p (.int (c : Int))), d3, some (.c n), e5, some (.c N.length), e7, d8, d9] (N' ++ [.lst (pl ++ plV (plG L a bs))])
  | 0, st, [], L, N, pl, d5, d7, _, _, _, Ne, _, _, _, _ => ⟨N, d5, d7, Ne, rfl, by simp [range0, plG, plV]⟩
  | a + 1, st, b :: bs, L, N, pl, d5, d7, hc, hb, hd, Ne, h3, hz, hA, hp => by
    have ec : ch[st]? = some (ixV b) := by
      have := List.getElem?_drop (xs := ch) (i := st) (j := 0)
      rw [hd] at this
      simpa using this.symm
    have hd' : ch.drop (st + 1) = bs.map ixV := by
      rw [← List.drop_drop, hd]
      rfl
    obtain ⟨N1, e5, Ne1, l1, t⟩ := gr0_turn Ne (a := a) (st := st) (by omega) hA.1 (hz a (by omega)) ec hp (by omega) d0 d3 d5 d8 d9
    obtain ⟨N2, f5, f7, Ne2, l2, e⟩ := gr0_loop d0 d3 d8 d9 cz a (st + 1) bs (L.set a (long1 b (L.getD a []))) N1 (pl ++ [.int (plc b (L.getD a []) : Nat)]) e5 (some (.p (.int (st : Int)))) (by omega) (by simpa using hb) hd' Ne1 (by rw [List.length_set, h3]) (fun j hj => by rw [getD_set, if_neg (by omega)]; exact hz j (by omega)) (AtG_set L _ a a bs (Nat.le_refl _) hA.2) (by rw [List.length_append, hp]; rfl)
    refine ⟨N2, f5, f7, Ne2, by rw [l2, l1], ?_⟩
    rw [l1] at e
    rw [show (st : Int) + ((a : Int) + 1) = (c : Int) by omega] at t
    rw [range_succ, for_nm]
    show afterTurn (L0_grown [d0, some (.p (.lst ch)), some (.p (.int (c : Int))), d3, some (.c n), d5, some (.c N.length), some (.p (.int (st : Int))), d8, d9] (N ++ [.lst pl])) _ = _
    rw [t, after_nx, show (st : Int) + 1 = ((st + 1 : Nat) : Int) by omega, e, plG_set L _ a a bs (Nat.le_refl _), List.append_assoc]
    rfl
theorem sh_szL {L : List SL} {n : Nat} (hl : szL L n) : ∀ j, ((shp L).getD j []).length ≤ n := fun j => by
  have := hl j
  unfold shp
  rw [List.getD_eq_getElem?_getD, List.getElem?_map]
  rw [List.getD_eq_getElem?_getD] at this
  cases q : L[j]? with
  | none => simp
  | some z => rw [q] at this; simpa using this
theorem gr1_turn {R N : AH} {n : Nat} {L : List SL} (Ne : Nest R N n (rowP L)) {a st : Nat} (ha : a < 3) (h3 : L.length = 3) {b : Option (Nat × Int)} {ss : SL} (hb : At ss b) (hL : L.getD a [] = long1 b ss) {sh : List (List Int)} (s3 : sh.length = 3) (hs : ∀ j, (sh.getD j []).length ≤ 1000) {pl : List PV} (hp : pl[st]? = some (.int (plc b ss : Nat))) (x : Int) (d0 d1 d5 d9 : Option DV) :
    ∃ N' e5 e9, Nest R N' n (rowP (L.set a ((L.getD a []).set (plc b ss) (nlen b, vac sh (a + 1) (nlen b) (x + 1))))) ∧ N'.length = N.length ∧
    L1_grown [d0, d1, some (.p (.int ((st : Int) + ((a : Int) + 1)))), some (.p (.int x)), some (.c n), d5, some (.c N.length), some (.p (.int (st : Int))), some (.p (shV sh)), d9] (N ++ [.lst pl]) = .nx [d0, d1, some (.p (.int ((st : Int) + ((a : Int) + 1)))), some (.p (.int x)), some (.c n), e5, some (.c N.length), some (.p (.int (st : Int))), some (.p (shV sh)), e9] (N' ++ [.lst pl]) := by
  obtain ⟨k, kl, e1, e2, e3⟩ := Ne.ixa (i := a) (by rw [rowP_len]; omega) [.lst pl]
  rw [rowP_at] at e2
  have la := long1_at hb
  rw [← hL] at la
  have NN := e3 (((L.getD a []).set (plc b ss) (nlen b, vac sh (a + 1) (nlen b) (x + 1))).map pairP)
  rw [rowP_set] at NN
  refine ⟨N.set k (.lst (((L.getD a []).set (plc b ss) (nlen b, vac sh (a + 1) (nlen b) (x + 1))).map pairP)), some (.c k), some (.p (.int (nlen b))), NN, List.length_set, ?_⟩
  have sub : (st : Int) + ((a : Int) + 1) - (st : Int) - 1 = (a : Int) := by omega
  have sub2 : (st : Int) + ((a : Int) + 1) - (st : Int) = ((a + 1 : Nat) : Int) := by omega
  have ipl : ixO (.c N.length) (.p (.int (st : Int))) (N ++ [.lst pl]) = some (.p (.int (plc b ss : Nat)), N ++ [.lst pl]) := ixO_c last_get (atI_at (by omega) (by rw [Int.toNat_natCast]; exact hp))
  have irow : ixO (.c k) (.p (.int ((plc b ss : Nat) : Int))) (N ++ [.lst pl]) = some (.p (pairP (nlen b, 0)), N ++ [.lst pl]) := ixO_c (row_at kl e2) (atI_at (by omega) (by rw [Int.toNat_natCast, List.getElem?_map, la]; rfl))
  have i00 := pair_0 (nlen b, 0)
  have pz : plc b ss < (L.getD a []).length := (List.getElem?_eq_some_iff.mp la).1
  have vk := vac_ok s3 hs (a := a + 1) (by omega) (by omega) (nlen b) (x + 1)
  have sx : setIx (.c k) (.p (.int ((plc b ss : Nat) : Int))) (.p (.tup [.int (nlen b), .int (vac sh (a + 1) (nlen b) (x + 1))])) (N ++ [.lst pl]) = some (N.set k (.lst (((L.getD a []).set (plc b ss) (nlen b, vac sh (a + 1) (nlen b) (x + 1))).map pairP)) ++ [.lst pl]) := by
    rw [setIx_c (row_at kl e2) (by rw [List.length_map]; exact pz), List.set_append_left _ _ kl, List.map_set]
    rfl
  unfold L1_grown
  generalize N.set k (.lst (((L.getD a []).set (plc b ss) (nlen b, vac sh (a + 1) (nlen b) (x + 1))).map pairP)) = M2 at *
  generalize vac sh (a + 1) (nlen b) (x + 1) = v at *
  generalize nlen b = nl at *
  generalize ((plc b ss : Nat) : Int) = pc at *
  generalize shV sh = V at *
  generalize ((a + 1 : Nat) : Int) = a1 at *
  refine seq_st (δ1 := [d0, d1, some (.p (.int ((st : Int) + ((a : Int) + 1)))), some (.p (.int x)), some (.c n), some (.c k), some (.c N.length), some (.p (.int (st : Int))), some (.p V), d9]) (S1 := N ++ [.lst pl]) ?_ ?_
  · generalize (st : Int) + ((a : Int) + 1) = cc at *
    simp [sub, e1]
  generalize (st : Int) + ((a : Int) + 1) = cc at *
  refine seq_st (δ1 := [d0, d1, some (.p (.int cc)), some (.p (.int x)), some (.c n), some (.c k), some (.c N.length), some (.p (.int (st : Int))), some (.p V), some (.p (.int nl))]) (S1 := N ++ [.lst pl]) ?_ ?_
  · simp [ipl, irow, i00]
  · simp [sub2, vk, ipl, ev_jSub3 sx]
theorem gr1_loop {R : AH} {n c : Nat} {pl : List PV} (L0 : List SL) {sh : List (List Int)} (s3 : sh.length = 3) (hs : ∀ j, (sh.getD j []).length ≤ 1000) (x : Int) (d0 d1 : Option DV) (cz : c ≤ 3) : ∀ (a st : Nat) (bs : List (Option (Nat × Int))) (L : List SL) (N : AH) (d5 d7 d9 : Option DV), st + a = c → bs.length = a → pl.drop st = plV (plG L0 a bs) → Nest R N n (rowP L) → L.length = 3 → AtG L0 a bs → LgG L0 L a bs →
    ∃ N' e5 e7 e9, Nest R N' n (rowP (ripeG L0 sh x L a bs)) ∧ N'.length = N.length ∧
    forGo ckT (.nm 7) L1_grown (rangeI (st : Int) a) [d0, d1, some (.p (.int (c : Int))), some (.p (.int x)), some (.c n), d5, some (.c N.length), d7, some (.p (shV sh)), d9] (N ++ [.lst pl]) = .nx [d0, d1, some (.p (.int (c : Int))), some (.p (.int x)), some (.c n), e5, some (.c N.length), e7, some (.p (shV sh)), e9] (N' ++ [.lst pl])
  | 0, st, [], L, N, d5, d7, d9, _, _, _, Ne, _, _, _ => ⟨N, d5, d7, d9, Ne, rfl, by simp [range0]⟩
  | a + 1, st, b :: bs, L, N, d5, d7, d9, hc, hb, hd, Ne, h3, hA, hL => by
    have ec : pl[st]? = some (.int (plc b (L0.getD a []) : Nat)) := by
      have := List.getElem?_drop (xs := pl) (i := st) (j := 0)
      rw [hd] at this
      simpa [plG, plV] using this.symm
    have hd' : pl.drop (st + 1) = plV (plG L0 a bs) := by
      rw [← List.drop_drop, hd]
      rfl
    obtain ⟨N1, e5, e9, Ne1, l1, t⟩ := gr1_turn Ne (a := a) (st := st) (by omega) h3 hA.1 hL.1 s3 hs ec x d0 d1 d5 d9
    obtain ⟨N2, f5, f7, f9, Ne2, l2, e⟩ := gr1_loop L0 s3 hs x d0 d1 cz a (st + 1) bs _ N1 e5 (some (.p (.int (st : Int)))) e9 (by omega) (by simpa using hb) hd' Ne1 (by rw [List.length_set, h3]) hA.2 (LgG_set _ a a bs (Nat.le_refl _) hL.2)
    refine ⟨N2, f5, f7, f9, Ne2, by rw [l2, l1], ?_⟩
    rw [l1] at e
    rw [show (st : Int) + ((a : Int) + 1) = (c : Int) by omega] at t
    rw [range_succ, for_nm]
    show afterTurn (L1_grown [d0, d1, some (.p (.int (c : Int))), some (.p (.int x)), some (.c n), d5, some (.c N.length), some (.p (.int (st : Int))), some (.p (shV sh)), d9] (N ++ [.lst pl])) _ = _
    rw [t, after_nx, show (st : Int) + 1 = ((st + 1 : Nat) : Int) by omega]
    exact e
theorem gr_ok {L : List SL} (h3 : L.length = 3) (hl : szL L 900) {c : Nat} (c1 : 1 ≤ c) (c3 : c ≤ 3) {bs : List (Option (Nat × Int))} (hb : bs.length = c) (hA : AtG L c bs) (x : Int) (S : AH) : d_grown [.p (LV L), .p (.lst (bs.map ixV)), .p (.int (c : Int)), .p (.int x)] S = .ok (.p (LV (grown L bs c x))) S := by
  have hz : (dit ((rowP L).map PV.lst)).length ≤ 16777216 := by rw [dit_len, List.length_map, rowP_len]; omega
  have Ne := nest_new S (rowP L)
  have lc := fun δ => lcK_cells (q := .nm 5) (δ := δ) (fe := dCell (dAppF listF (dCons (dVar 5) dNil))) (fun v => match v with | .lst r => r | _ => []) (xs := (rowP L).map PV.lst) (S := S)
  have rg := rg_len c (by omega)
  generalize hN : S ++ (rowP L).map Cell.lst ++ [Cell.nst (List.range' S.length (rowP L).length)] = N at *
  generalize hn : S.length + (rowP L).length = n at *
  obtain ⟨N1, e5, e7, Ne1, l1, lo1⟩ := gr0_loop (c := c) (ch := bs.map ixV) (some (.p (LV L))) (some (.p (.int x))) none none c3 c 0 bs L N [] none none (by omega) hb rfl Ne h3 (fun j _ => hl j) hA rfl
  rw [List.nil_append] at lo1
  have lo1 : forGo ckT (.nm 7) L0_grown (rangeI 0 c) _ _ = _ := lo1
  have lz : szL (longG L c bs) 1000 := fun j => by
    have := longG_sz (n := 900) c bs L (fun j => by have := hl j; omega) (fun j _ => hl j) j
    omega
  have l3 : (longG L c bs).length = 3 := by rw [longG_len, h3]
  have ln := len_nest (Ne1.app [.lst (plV (plG L c bs))]) (by omega) lz
  have shl : (shp (longG L c bs)).length = 3 := by unfold shp; rw [List.length_map, l3]
  obtain ⟨N2, f5, f7, f9, Ne2, l2, lo2⟩ := gr1_loop (c := c) (pl := plV (plG L c bs)) L shl (sh_szL lz) x (some (.p (LV L))) (some (.p (.lst (bs.map ixV)))) c3 c 0 bs (longG L c bs) N1 e5 e7 none (by omega) hb rfl Ne1 l3 hA (LgG_long L c bs (by omega))
  have lo2 : forGo ckT (.nm 7) L1_grown (rangeI 0 c) _ _ = _ := lo2
  rw [l1] at lo2
  refine (dDef_ap rfl).trans ?_
  show gcK S false (b_grown_ [some (.p (LV L)), some (.p (.lst (bs.map ixV))), some (.p (.int (c : Int))), some (.p (.int x)), none, none, none, none, none, none] S) = _
  have body : b_grown_ [some (.p (LV L)), some (.p (.lst (bs.map ixV))), some (.p (.int (c : Int))), some (.p (.int x)), none, none, none, none, none, none] S = .rt (.c n) (N2 ++ [.lst (plV (plG L c bs))]) := by
    unfold b_grown_
    refine seq_st (δ1 := [some (.p (LV L)), some (.p (.lst (bs.map ixV))), some (.p (.int (c : Int))), some (.p (.int x)), some (.c n), none, none, none, none, none]) (S1 := N) ?_ ?_
    · unfold LV
      simp [ev_kLcK hz]
      rw [lc _ (fun v hv S => by
        obtain ⟨r, _, rfl⟩ := List.mem_map.mp hv
        refine ⟨_, rfl, ?_⟩
        have lf : kAppF listF [.p (.lst r)] S = .ok r S := kAppF_some rfl
        simp [wipeD, lf])]
      subst hN hn
      simp [List.map_map, Function.comp_def]
    generalize shV (shp (longG L c bs)) = V at *
    generalize LV L = LL at *
    generalize bs.map ixV = CH at *
    generalize plV (plG L c bs) = PL at *
    refine seq_st (δ1 := [some (.p LL), some (.p (.lst CH)), some (.p (.int (c : Int))), some (.p (.int x)), some (.c n), none, some (.c N.length), none, none, none]) (S1 := N ++ [.lst []]) (by simp) ?_
    refine seq_st (δ1 := [some (.p LL), some (.p (.lst CH)), some (.p (.int (c : Int))), some (.p (.int x)), some (.c n), e5, some (.c N.length), e7, none, none]) (S1 := N1 ++ [.lst PL]) (by simp [rg]; exact lo1) ?_
    refine seq_st (δ1 := [some (.p LL), some (.p (.lst CH)), some (.p (.int (c : Int))), some (.p (.int x)), some (.c n), e5, some (.c N.length), e7, some (.p V), none]) (S1 := N1 ++ [.lst PL]) (by simp [ln]) ?_
    refine seq_st (δ1 := [some (.p LL), some (.p (.lst CH)), some (.p (.int (c : Int))), some (.p (.int x)), some (.c n), f5, some (.c N.length), f7, some (.p V), f9]) (S1 := N2 ++ [.lst PL]) (by simp [rg]; exact lo2) ?_
    simp
  have Nf := Ne2.app [.lst (plV (plG L c bs))]
  rw [body]
  obtain ⟨ks, K⟩ := Nf
  have fz := frzCs_of (m := S.length) K.len fun i k e => ⟨K.klo k (List.mem_of_getElem? e), K.row i k e⟩
  rw [gc_nst (okC_take K.pre) K.lo K.nst fz, K.pre]
  rfl
/-! ### lists_of -/
def lnV (b : Option (Nat × Int)) : PV := .int (b.elim 0 (·.2))
theorem lo_inner {L : List SL} (h3 : L.length = 3) {c : Nat} {ch : List PV} (cz : c ≤ 3) (M : AH) (d0 d2 d3 : Option DV) : ∀ (a st : Nat) (bs : List (Option (Nat × Int))) (acc : List PV) (d7 d8 : Option DV), st + a = c → bs.length = a → ch.drop st = bs.map ixV → AtG L a bs → acc.length = st → ∃ e7 e8,
    forGo ckT (.nm 7) L0_lists_of (rangeI (st : Int) a) [d0, some (.p (LV L)), d2, d3, some (.p (.int (c : Int))), some (.p (.lst ch)), some (.c M.length), d7, d8] (M ++ [.lst acc]) = .nx [d0, some (.p (LV L)), d2, d3, some (.p (.int (c : Int))), some (.p (.lst ch)), some (.c M.length), e7, e8] (M ++ [.lst (acc ++ bs.map lnV)])
  | 0, st, [], acc, d7, d8, _, _, _, _, _ => ⟨d7, d8, by simp [range0]⟩
  | a + 1, st, b :: bs, acc, d7, d8, hc, hb, hd, hA, hp => by
    have ec : ch[st]? = some (ixV b) := by
      have := List.getElem?_drop (xs := ch) (i := st) (j := 0)
      rw [hd] at this
      simpa using this.symm
    have hd' : ch.drop (st + 1) = bs.map ixV := by
      rw [← List.drop_drop, hd]
      rfl
    obtain ⟨e7, e8, e⟩ := lo_inner h3 cz M d0 d2 d3 a (st + 1) bs (acc ++ [lnV b]) (some (.p (.int (st : Int)))) (some (.p (.lst ((L.getD a []).map pairP)))) (by omega) (by simpa using hb) hd' hA.2 (by rw [List.length_append, hp]; rfl)
    refine ⟨e7, e8, ?_⟩
    have lx := fun S => LV_at (L := L) (i := a) (by omega) S
    have ic : ∀ S, ixO (.p (.lst ch)) (.p (.int (st : Int))) S = some (.p (ixV b), S) := fun S => ixO_lst (atI_at (by omega) (by rw [Int.toNat_natCast]; exact ec))
    have sub : (c : Int) - (st : Int) - 1 = (a : Int) := by omega
    have ap : ∀ y : PV, appendM (.c M.length) [.p y] (M ++ [.lst acc]) = some (.p .non, M ++ [.lst (acc ++ [y])]) := fun y => append_last (by omega)
    have pb : ∀ i l, b = some (i, l) → ∃ j, ∀ S, ixO (.p (.lst ((L.getD a []).map pairP))) (.p (.int (i : Int))) S = some (.p (pairP (l, j)), S) := fun i l e2 => by
      obtain ⟨j, e3⟩ := hA.1 i l e2
      exact ⟨j, fun S => str_at e3 S⟩
    rw [range_succ, for_nm]
    have st1 : L0_lists_of ([d0, some (.p (LV L)), d2, d3, some (.p (.int (c : Int))), some (.p (.lst ch)), some (.c M.length), d7, d8].set 7 (some (.p (.int (st : Int))))) (M ++ [.lst acc]) = .nx [d0, some (.p (LV L)), d2, d3, some (.p (.int (c : Int))), some (.p (.lst ch)), some (.c M.length), some (.p (.int (st : Int))), some (.p (.lst ((L.getD a []).map pairP)))] (M ++ [.lst (acc ++ [lnV b])]) := by
      unfold L0_lists_of
      generalize (L.getD a []).map pairP = U at *
      generalize LV L = LL at *
      refine seq_st (δ1 := [d0, some (.p LL), d2, d3, some (.p (.int (c : Int))), some (.p (.lst ch)), some (.c M.length), some (.p (.int (st : Int))), some (.p (.lst U))]) (S1 := M ++ [.lst acc]) (by simp [sub, lx]) ?_
      cases b with
      | none => simp [ic, ixV, ap, lnV]
      | some q =>
        obtain ⟨i, l⟩ := q
        obtain ⟨j, pi⟩ := pb i l rfl
        have p0 := pair_0 (l, j)
        have ni : ¬ (i : Int) < 0 := by omega
        simp [ic, ixV, ni, pi, p0, ap, lnV]
    rw [st1, after_nx, show (st : Int) + 1 = ((st + 1 : Nat) : Int) by omega, e, List.map_cons, List.append_assoc]
    rfl
theorem oneB_sz {L : List SL} {n : Nat} (h : szL L n) (b : Int × Int) : szL (oneB L b) (n + 1) := grown_sz h _ _ _
theorem oneB_len (L : List SL) (b : Int × Int) : (oneB L b).length = L.length := grown_len L _ _ _
theorem tr_set (S J : AH) (c d : Cell) : (S ++ c :: J).set S.length d = S ++ d :: J := by
  rw [List.set_append_right _ _ (Nat.le_refl _), Nat.sub_self]
  rfl
theorem tr_get (S J : AH) (c : Cell) : (S ++ c :: J)[S.length]? = some c := by
  rw [List.getElem?_append_right (Nat.le_refl _), Nat.sub_self]
  rfl
theorem lo_turn {L : List SL} (h3 : L.length = 3) (hl : szL L 900) (S J : AH) {tr : List (List Int)} (tz : tr.length ≤ 900) {b : Int × Int} (b1 : 1 ≤ b.2) (b3 : b.2 ≤ 3) (d0 d5 d6 d7 d8 : Option DV) : ∃ J' e5 e6 e7 e8,
    L1_lists_of [d0, some (.p (LV L)), some (.c S.length), some (.p (.int b.1)), some (.p (.int b.2)), d5, d6, d7, d8] (S ++ .lst (tr.map tupI) :: J) = .nx [d0, some (.p (LV (oneB L b))), some (.c S.length), some (.p (.int b.1)), some (.p (.int b.2)), e5, e6, e7, e8] (S ++ .lst ((tr ++ [trc L b]).map tupI) :: J') := by
  obtain ⟨x, c⟩ := b
  obtain ⟨c, rfl⟩ : ∃ k : Nat, c = (k : Int) := ⟨c.toNat, by simp at b1; omega⟩
  have c1 : 1 ≤ c := by simp at b1; omega
  have c3 : c ≤ 3 := by simp at b3; omega
  have hl' : szL L 1000 := fun j => by have := hl j; omega
  have ch := ch_ok h3 hl' x c1 c3
  have cl : (chosen L c x).length = c := chG_len L x c none
  have cA : AtG L c (chosen L c x) := AtG_chG L x c none
  have gr := gr_ok h3 hl c1 c3 cl cA x
  obtain ⟨e7, e8, lo⟩ := lo_inner (L := L) h3 (c := c) (ch := (chosen L c x).map ixV) c3 (S ++ .lst (tr.map tupI) :: J) d0 (some (.c S.length)) (some (.p (.int x))) c 0 (chosen L c x) [] d7 d8 (by omega) cl rfl cA rfl
  rw [List.nil_append] at lo
  have lo : forGo ckT (.nm 7) L0_lists_of (rangeI 0 c) _ _ = _ := lo
  have rg := rg_len c (by omega)
  have ob : oneB L (x, (c : Int)) = grown L (chosen L c x) c x := by unfold oneB; simp
  have tc : trc L (x, (c : Int)) = (chosen L c x).map fun q => q.elim 0 (·.2) := by unfold trc; simp
  have tlen : (chosen L c x).map lnV = (trc L (x, (c : Int))).map PV.int := by rw [tc, List.map_map]; rfl
  refine ⟨J ++ [.lst ((trc L (x, (c : Int))).map PV.int)], some (.p (.lst ((chosen L c x).map ixV))), some (.c (S ++ .lst (tr.map tupI) :: J).length), e7, e8, ?_⟩
  rw [ob]
  rw [tlen] at lo
  unfold L1_lists_of
  have tp : tupleO [.c (S ++ .lst (tr.map tupI) :: J).length] ((S ++ .lst (tr.map tupI) :: J) ++ [.lst ((trc L (x, (c : Int))).map PV.int)]) = some (.p (tupI (trc L (x, (c : Int)))), (S ++ .lst (tr.map tupI) :: J) ++ [.lst ((trc L (x, (c : Int))).map PV.int)]) := tupleO_last
  have es : (S ++ .lst (tr.map tupI) :: J) ++ [.lst ((trc L (x, (c : Int))).map PV.int)] = S ++ .lst (tr.map tupI) :: (J ++ [.lst ((trc L (x, (c : Int))).map PV.int)]) := by simp
  have ap : ∀ y : PV, appendM (.c S.length) [.p y] ((S ++ .lst (tr.map tupI) :: J) ++ [.lst ((trc L (x, (c : Int))).map PV.int)]) = some (.p .non, S ++ .lst (tr.map tupI ++ [y]) :: (J ++ [.lst ((trc L (x, (c : Int))).map PV.int)])) := fun y => by
    rw [es, append_c (tr_get _ _ _) (by rw [List.length_map]; omega), tr_set]
  have km : ∀ (o : OpM) (fs : Sig → AH → Res (List DV)) (δ : Sig), kMeth o fs δ (.c S.length) ((S ++ .lst (tr.map tupI) :: J) ++ [.lst ((trc L (x, (c : Int))).map PV.int)]) = (fs δ ((S ++ .lst (tr.map tupI) :: J) ++ [.lst ((trc L (x, (c : Int))).map PV.int)])).bind (kMeth2 o (.c S.length)) := fun o fs δ => by
    rw [es]
    exact kMeth_c (tr_get _ _ _)
  have am : tr.map tupI ++ [tupI (trc L (x, (c : Int)))] = (tr ++ [trc L (x, (c : Int))]).map tupI := by rw [List.map_append]; rfl
  generalize hM : S ++ Cell.lst (tr.map tupI) :: J = M at *
  generalize (trc L (x, (c : Int))).map PV.int = TT at *
  rw [← am]
  generalize tupI (trc L (x, (c : Int))) = TV at *
  generalize (chosen L c x).map ixV = CH at *
  generalize LV (grown L (chosen L c x) c x) = L2 at *
  generalize LV L = LL at *
  refine seq_st (δ1 := [d0, some (.p LL), some (.c S.length), some (.p (.int x)), some (.p (.int (c : Int))), some (.p (.lst CH)), d6, d7, d8]) (S1 := M) (by simp [ch]) ?_
  refine seq_st (δ1 := [d0, some (.p LL), some (.c S.length), some (.p (.int x)), some (.p (.int (c : Int))), some (.p (.lst CH)), some (.c M.length), d7, d8]) (S1 := M ++ [.lst []]) (by simp) ?_
  refine seq_st (δ1 := [d0, some (.p LL), some (.c S.length), some (.p (.int x)), some (.p (.int (c : Int))), some (.p (.lst CH)), some (.c M.length), e7, e8]) (S1 := M ++ [.lst TT]) (by simp [rg]; exact lo) ?_
  refine seq_st (δ1 := [d0, some (.p LL), some (.c S.length), some (.p (.int x)), some (.p (.int (c : Int))), some (.p (.lst CH)), some (.c M.length), e7, e8]) (S1 := S ++ .lst (tr.map tupI ++ [TV]) :: (J ++ [.lst TT])) (by simp [km, tp, ap]) ?_
  simp [gr]
theorem lo_loop2 (S : AH) (d0 : Option DV) : ∀ (bs : List (Int × Int)) (L : List SL) (tr : List (List Int)) (n : Nat) (J : AH) (d3 d4 d5 d6 d7 d8 : Option DV), L.length = 3 → szL L n → n + bs.length ≤ 800 → tr.length = n → (∀ b ∈ bs, 1 ≤ b.2 ∧ b.2 ≤ 3) → ∃ J' e3 e4 e5 e6 e7 e8,
    forGo ckT (.tp [(.nm 3), (.nm 4)]) L1_lists_of (dit (bs.map pairP)) [d0, some (.p (LV L)), some (.c S.length), d3, d4, d5, d6, d7, d8] (S ++ .lst (tr.map tupI) :: J) = .nx [d0, some (.p (LV (listsG L tr bs).1)), some (.c S.length), e3, e4, e5, e6, e7, e8] (S ++ .lst ((listsG L tr bs).2.map tupI) :: J')
  | [], L, tr, n, J, d3, d4, d5, d6, d7, d8, _, _, _, _, _ => ⟨J, d3, d4, d5, d6, d7, d8, for_nil⟩
  | b :: bs, L, tr, n, J, d3, d4, d5, d6, d7, d8, h3, hl, hz, ht, hb => by
    have hb1 := hb b List.mem_cons_self
    rw [List.length_cons] at hz
    obtain ⟨J1, e5, e6, e7, e8, t⟩ := lo_turn h3 (fun j => by have := hl j; omega) S J (tr := tr) (by omega) hb1.1 hb1.2 d0 d5 d6 d7 d8
    obtain ⟨J2, f3, f4, f5, f6, f7, f8, e⟩ := lo_loop2 S d0 bs (oneB L b) (tr ++ [trc L b]) (n + 1) J1 (some (.p (.int b.1))) (some (.p (.int b.2))) e5 e6 e7 e8 (by rw [oneB_len, h3]) (oneB_sz hl b) (by omega) (by rw [List.length_append, ht]; rfl) (fun y hy => hb y (List.mem_cons_of_mem _ hy))
    refine ⟨J2, f3, f4, f5, f6, f7, f8, ?_⟩
    rw [List.map_cons, dit_cons, for_cons (δ1 := [d0, some (.p (LV L)), some (.c S.length), some (.p (.int b.1)), some (.p (.int b.2)), d5, d6, d7, d8]) rfl, t, after_nx]
    exact e
theorem listsG_len : ∀ (bs : List (Int × Int)) (L : List SL) (tr : List (List Int)), (listsG L tr bs).1.length = L.length
  | [], _, _ => rfl
  | b :: bs, L, tr => by
    show (listsG (oneB L b) _ bs).1.length = _
    rw [listsG_len bs, oneB_len]
theorem listsG_sz : ∀ (bs : List (Int × Int)) (L : List SL) (tr : List (List Int)) (n : Nat), szL L n → szL (listsG L tr bs).1 (n + bs.length)
  | [], _, _, _, h => h
  | b :: bs, L, tr, n, h => by
    have := listsG_sz bs (oneB L b) (tr ++ [trc L b]) (n + 1) (oneB_sz h b)
    rw [List.length_cons, show n + (bs.length + 1) = n + 1 + bs.length by omega]
    exact this
def listsV (p : List SL × List (List Int)) : PV := .tup [.tup (p.1.map fun ss => .tup ((sortP ss).map pairP)), .tup (p.2.map tupI)]
theorem los_ok {V : DV} {bs : List (Int × Int)} (hV : ∀ S : AH, kSeqI V S = .ok (dit (bs.map pairP), ckT) S) (hz : bs.length ≤ 700) (hb : ∀ b ∈ bs, 1 ≤ b.2 ∧ b.2 ≤ 3) (S : AH) : d_lists_of [V] S = .ok (.p (listsV (listsOf bs))) S := by
  obtain ⟨J, e3, e4, e5, e6, e7, e8, lo⟩ := lo_loop2 S (some V) bs [[], [], []] [] 0 [] none none none none none none rfl (fun j => by
    match j with
    | 0 => exact Nat.le_refl _
    | 1 => exact Nat.le_refl _
    | 2 => exact Nat.le_refl _
    | j + 3 => exact Nat.le_refl _) (by omega) rfl hb
  have h3 := listsG_len bs [[], [], []] []
  have hz2 : (dit ((listsOf bs).1.map fun ss => PV.lst (ss.map pairP))).length ≤ 16777216 := by
    rw [dit_len, List.length_map]
    unfold listsOf
    rw [h3]
    decide
  have fin : ∀ (M : AH), lcGo ckT (.nm 8) dYes (dApp tupleO (dCons (dVal (dAppF sortedF2 (dCons (dVar 8) dNil))) dNil)) (some V :: some (.p (LV (listsOf bs).1)) :: some (.c S.length) :: e3 :: e4 :: e5 :: e6 :: e7 :: none :: []) (dit ((listsOf bs).1.map fun ss => PV.lst (ss.map pairP))) M = .ok ((listsOf bs).1.map fun ss => .tup ((sortP ss).map pairP)) M := fun M =>
    tl_map trivial (fun ss : SL => PV.lst (ss.map pairP)) (fun ss => .tup ((sortP ss).map pairP)) _ fun ss hs => ⟨_, rfl, by
      have k : ∀ S, kAppF sortedF2 [.p (.lst (ss.map pairP))] S = .ok ((sortP ss).map pairP) S := fun S => kAppF_some sortedF2_pairs
      simp [k]⟩
  have eL : LV (listsOf bs).1 = .lst ((listsOf bs).1.map fun ss => .lst (ss.map pairP)) := by unfold LV rowP; rw [List.map_map]; rfl
  have lo : forGo ckT (.tp [(.nm 3), (.nm 4)]) L1_lists_of (dit (bs.map pairP)) [some V, some (.p (.lst [.lst [], .lst [], .lst []])), some (.c S.length), none, none, none, none, none, none] (S ++ [.lst []]) = .nx [some V, some (.p (LV (listsOf bs).1)), some (.c S.length), e3, e4, e5, e6, e7, e8] (S ++ .lst ((listsOf bs).2.map tupI) :: J) := lo
  refine (dDef_ap rfl).trans ?_
  show gcK S false (b_lists_of_ [some V, none, none, none, none, none, none, none, none] S) = _
  have tp : tupleO [.c S.length] (S ++ .lst ((listsOf bs).2.map tupI) :: J) = some (.p (.tup ((listsOf bs).2.map tupI)), S ++ .lst ((listsOf bs).2.map tupI) :: J) := tupleO_c (tr_get _ _ _)
  have body : b_lists_of_ [some V, none, none, none, none, none, none, none, none] S = .rt (.p (listsV (listsOf bs))) (S ++ .lst ((listsOf bs).2.map tupI) :: J) := by
    unfold b_lists_of_ listsV
    rw [eL] at lo fin
    refine seq_st (δ1 := [some V, some (.p (.lst [.lst [], .lst [], .lst []])), none, none, none, none, none, none, none]) (S1 := S) (by simp) ?_
    refine seq_st (δ1 := [some V, some (.p (.lst [.lst [], .lst [], .lst []])), some (.c S.length), none, none, none, none, none, none]) (S1 := S ++ [.lst []]) (by simp) ?_
    refine seq_st (by rw [ev_for, ev_seqI]; simp only [ev_var]; rw [show (vget ([some V, some (.p (.lst [.lst [], .lst [], .lst []])), some (.c S.length), none, none, none, none, none, none] : Sig)[0]? (S ++ [.lst []])) = .ok V (S ++ [.lst []]) from rfl, Res.bind_ok, hV, out_ok, ev_jFor]; exact lo) ?_
    generalize (listsOf bs).2.map tupI = T2 at *
    generalize hF : ((listsOf bs).1.map fun ss => PV.tup ((sortP ss).map pairP)) = F at *
    generalize hG : ((listsOf bs).1.map fun ss => PV.lst (ss.map pairP)) = G at *
    simp [ev_kLc hz2, wipeD, fin, tp]
  rw [body, gc_rt (by simp)]
  simp
end DL
namespace DL
/-! ### rings: loads of a carrier, plain -/
def pk (l b c : Int) : Int := if b = 1 ∧ c < l then 1 else 0
/-- how many balls a carrier takes up -/
def lds (l : Int) : List Int → Int → Int
  | [], _ => 0
  | b :: w, c => pk l b c + lds l w (sC l b c)
theorem lds_app {l : Int} : ∀ (u v : List Int) (c : Int), lds l (u ++ v) c = lds l u c + lds l v (fin l u c)
  | [], v, c => by simp [lds, fin]
  | b :: u, v, c => by
    show pk l b c + lds l (u ++ v) (sC l b c) = pk l b c + lds l u (sC l b c) + lds l v (fin l u (sC l b c))
    rw [lds_app u v]
    omega
theorem p_swap {l m b c d : Int} (hb : b = 0 ∨ b = 1) (h0 : 0 ≤ c) (h1 : c ≤ l) (k0 : 0 ≤ d) (k1 : d ≤ m) :
    pk m (sB l b c) d + min (sC l b c) (m - sC m (sB l b c) d) = min c (m - d) + pk m b (rD l m c d) := by
  simp only [pk, sB, sC, rD]
  rcases hb with rfl | rfl
  · by_cases a1 : 0 < c
    · by_cases a2 : d < m
      · by_cases a3 : 0 < d <;> simp [a1, a2, a3] <;> omega
      · by_cases a3 : 0 < d <;> simp [a1, a2, a3] <;> omega
    · by_cases a3 : 0 < d <;> simp [a1, a3] <;> omega
  · by_cases a1 : c < l
    · by_cases a3 : 0 < d
      · by_cases a4 : d - min (l - c) d + min c (m - d) < m
        · simp [a1, a3, a4]; omega
        · simp [a1, a3, a4]; omega
      · by_cases a4 : d - min (l - c) d + min c (m - d) < m
        · simp [a1, a3, a4]; omega
        · simp [a1, a3, a4]; omega
    · by_cases a2 : d < m
      · by_cases a4 : d - min (l - c) d + min c (m - d) < m
        · simp [a1, a2, a4] <;> omega
        · simp [a1, a2, a4] <;> omega
      · by_cases a4 : d - min (l - c) d + min c (m - d) < m
        · simp [a1, a2, a4] <;> omega
        · simp [a1, a2, a4] <;> omega
theorem lds_swap {l m : Int} : ∀ {w : List Int} {c d : Int}, Bits w → 0 ≤ c → c ≤ l → 0 ≤ d → d ≤ m →
    lds m (out l w c) d + min (fin l w c) (m - fin m (out l w c) d) = min c (m - d) + lds m w (rD l m c d)
  | [], c, d, _, _, _, _, _ => by simp [lds, out, fin]
  | b :: w, c, d, hw, h0, h1, k0, k1 => by
    have p := p_swap (m := m) (d := d) hw.hd h0 h1 k0 k1
    have s2 := (s_swap (m := m) (d := d) hw.hd h0 h1 k0 k1).2.1
    have i := lds_swap (m := m) (d := sC m (sB l b c) d) hw.tl (sC_bd (b := b) h0 h1).1 (sC_bd (b := b) h0 h1).2 (sC_bd k0 k1).1 (sC_bd k0 k1).2
    simp only [out, fin, lds]
    rw [s2] at i
    omega
/-- the energy of a ring -/
def En (l : Int) (w : List Int) : Int := lds l w (cnt l w)
theorem en_of {l : Int} {w : List Int} (h : Ring w) {x : Int} (h0 : 0 ≤ x) (h1 : x ≤ l) (e : fin l w x = x) : En l w = lds l w x := by
  unfold En
  rw [cnt_uni h h0 h1 e]
theorem en_car {l m : Int} {w : List Int} (hl : 0 ≤ l) (hm : 0 ≤ m) (h : Ring w) : En m (car l w) = En m w := by
  have hc := cnt_bd (w := w) hl
  have hd := cnt_bd (w := car l w) hm
  have hr := car_ring hl h
  have f1 := cnt_fix hl h
  have f2 := cnt_fix hm hr
  have s2 := (run_swap (m := m) h.b hc.1 hc.2 hd.1 hd.2).2.1
  have sw := lds_swap (m := m) h.b hc.1 hc.2 hd.1 hd.2
  have hb := r_bd hc.1 hc.2 hd.1 hd.2
  rw [f1] at s2 sw
  change rD _ _ _ (fin m (car l w) _) = _ at s2
  change lds m (car l w) _ + min _ (m - fin m (car l w) _) = _ at sw
  rw [f2] at s2 sw
  rw [en_of h hb.1.1 hb.1.2 s2.symm]
  unfold En
  omega
theorem en_rot {l : Int} {u v : List Int} (hl : 0 ≤ l) (h : Ring (u ++ v)) : En l (v ++ u) = En l (u ++ v) := by
  have hb := cnt_bd (w := u ++ v) hl
  have f := cnt_fix hl h
  have he := fin_bd u hb.1 hb.2
  rw [fin_app] at f
  rw [en_of h.rot he.1 he.2 (by rw [fin_app, f]), lds_app, f]
  unfold En
  rw [lds_app]
  omega
/-! a high ring -/
/-- each beginning has at least as many 0 as 1; s is how many more 1 there were -/
def Hi : Int → List Int → Prop
  | _, [] => True
  | s, b :: w => s + (2 * b - 1) ≤ 0 ∧ Hi (s + (2 * b - 1)) w
theorem lds_hi {l c0 : Int} : ∀ (w : List Int) (a b s : Int), Bits w → 0 ≤ a → a ≤ b → b ≤ l → (a = b ∨ b = c0 + s) → c0 ≤ l → Hi s w → lds l w a = lds l w b
  | [], _, _, _, _, _, _, _, _, _, _ => rfl
  | x :: w, a, b, s, hw, h0, h1, h2, h3, h4, h5 => by
    rcases h3 with rfl | h3
    · rfl
    by_cases e : a = b
    · rw [e]
    have hs := h5.1
    show pk l x a + lds l w (sC l x a) = pk l x b + lds l w (sC l x b)
    rcases hw.hd with rfl | rfl
    · have p : pk l 0 a = 0 ∧ pk l 0 b = 0 := by simp [pk]
      have s1 := sC_bd (l := l) (b := 0) h0 (by omega : a ≤ l)
      have e2 : sC l 0 b = b - 1 := by
        have : 0 < b := by omega
        simp [sC, this]
      rw [p.1, p.2, e2]
      have e1 : sC l 0 a = if 0 < a then a - 1 else a := by simp [sC]
      have := lds_hi (l := l) (c0 := c0) w (sC l 0 a) (b - 1) (s + (2 * 0 - 1)) hw.tl s1.1 (by rw [e1]; split <;> omega) (by omega) (.inr (by omega)) h4 h5.2
      rw [this]
    · have lb : b < l := by omega
      have la : a < l := by omega
      have p : pk l 1 a = 1 ∧ pk l 1 b = 1 := by simp [pk, la, lb]
      have e1 : sC l 1 a = a + 1 ∧ sC l 1 b = b + 1 := by simp [sC, la, lb]
      rw [p.1, p.2, e1.1, e1.2]
      have := lds_hi (l := l) (c0 := c0) w (a + 1) (b + 1) (s + (2 * 1 - 1)) hw.tl (by omega) (by omega) (by omega) (.inr (by omega)) h4 h5.2
      rw [this]
theorem en_high {l : Int} {w : List Int} (hl : 0 ≤ l) (h : Ring w) (hh : Hi 0 w) : En l w = lds l w 0 := by
  have hc := cnt_bd (w := w) hl
  exact (lds_hi (c0 := cnt l w) w 0 (cnt l w) 0 h.b (Int.le_refl 0) hc.1 hc.2 (.inr (by omega)) hc.2 hh).symm
/-! pairs taken away: a ball and the empty box behind it -/
def hd (w : List Int) (nx : Int) : Int := match w with
  | [] => nx
  | c :: _ => c
def gonP (p b d : Int) : Bool := decide ((b = 1 ∧ d = 0) ∨ (b = 0 ∧ p = 1))
/-- what stays; p stands ahead of the boxes, nx behind them -/
def kp : Int → List Int → Int → List Int
  | _, [], _ => []
  | p, b :: w, nx => if gonP p b (hd w nx) = true then kp b w nx else b :: kp b w nx
def dn : List Int → Int → Int
  | [], _ => 0
  | b :: w, nx => (if b = 1 ∧ hd w nx = 0 then 1 else 0) + dn w nx
def lastL : Int → List Int → Int
  | p, [] => p
  | _, b :: w => lastL b w
def RK (k p b c c' : Int) : Prop := (p = 0 ∧ c = c' ∧ 0 ≤ c ∧ c ≤ k - 1) ∨ (p = 1 ∧ b = 1 ∧ 1 ≤ c ∧ c ≤ k ∧ c' = min c (k - 1)) ∨ (p = 1 ∧ b = 0 ∧ 1 ≤ c ∧ c ≤ k ∧ c' = c - 1)
def pot (p b c c' : Int) : Int := if p = 1 ∧ b = 1 then c - c' else 0
theorem kp_gone {k p b d c c' : Int} (hk : 1 ≤ k) (hb : b = 0 ∨ b = 1) (hd : d = 0 ∨ d = 1) (h : RK k p b c c') (g : gonP p b d = true) :
    RK k b d (sC k b c) c' ∧ pk k b c + pot p b c c' = (if b = 1 ∧ d = 0 then 1 else 0) + pot b d (sC k b c) c' := by
  unfold gonP at g
  simp only [decide_eq_true_eq] at g
  rcases h with ⟨rfl, rfl, h1, h2⟩ | ⟨rfl, rfl, h1, h2, rfl⟩ | ⟨rfl, rfl, h1, h2, rfl⟩
  · rcases hb with rfl | rfl
    · omega
    · have hd0 : d = 0 := by omega
      subst hd0
      have lt : c < k := by omega
      refine ⟨.inr (.inr ⟨rfl, rfl, ?_, ?_, ?_⟩), ?_⟩ <;> simp [sC, pk, pot, lt] <;> omega
  · have hd0 : d = 0 := by omega
    subst hd0
    by_cases lt : c < k
    · refine ⟨.inr (.inr ⟨rfl, rfl, ?_, ?_, ?_⟩), ?_⟩ <;> simp [sC, pk, pot, lt] <;> omega
    · refine ⟨.inr (.inr ⟨rfl, rfl, ?_, ?_, ?_⟩), ?_⟩ <;> simp [sC, pk, pot, lt] <;> omega
  · have lt : 0 < c := by omega
    refine ⟨.inl ⟨rfl, ?_, ?_, ?_⟩, ?_⟩ <;> simp [sC, pk, pot, lt] <;> omega
theorem kp_stay {k p b d c c' : Int} (hk : 1 ≤ k) (hb : b = 0 ∨ b = 1) (hd : d = 0 ∨ d = 1) (h : RK k p b c c') (g : ¬ gonP p b d = true) :
    RK k b d (sC k b c) (sC (k - 1) b c') ∧ pk k b c + pot p b c c' = (if b = 1 ∧ d = 0 then 1 else 0) + pk (k - 1) b c' + pot b d (sC k b c) (sC (k - 1) b c') := by
  unfold gonP at g
  simp only [decide_eq_true_eq] at g
  rcases h with ⟨rfl, rfl, h1, h2⟩ | ⟨rfl, rfl, h1, h2, rfl⟩ | ⟨rfl, rfl, h1, h2, rfl⟩
  · rcases hb with rfl | rfl
    · by_cases lt : 0 < c
      · refine ⟨.inl ⟨rfl, ?_, ?_, ?_⟩, ?_⟩ <;> simp [sC, pk, pot, lt] <;> omega
      · refine ⟨.inl ⟨rfl, ?_, ?_, ?_⟩, ?_⟩ <;> simp [sC, pk, pot, lt] <;> omega
    · have hd1 : d = 1 := by omega
      subst hd1
      have lt : c < k := by omega
      by_cases l2 : c < k - 1
      · refine ⟨.inr (.inl ⟨rfl, rfl, ?_, ?_, ?_⟩), ?_⟩ <;> simp [sC, pk, pot, lt, l2] <;> omega
      · refine ⟨.inr (.inl ⟨rfl, rfl, ?_, ?_, ?_⟩), ?_⟩ <;> simp [sC, pk, pot, lt, l2] <;> omega
  · have hd1 : d = 1 := by omega
    subst hd1
    by_cases l2 : c < k - 1
    · have lt : c < k := by omega
      have m1 : min c (k - 1) = c := by omega
      rw [m1]
      refine ⟨.inr (.inl ⟨rfl, rfl, ?_, ?_, ?_⟩), ?_⟩ <;> simp [sC, pk, pot, lt, l2] <;> omega
    · have m1 : min c (k - 1) = k - 1 := by omega
      rw [m1]
      by_cases lt : c < k
      · refine ⟨.inr (.inl ⟨rfl, rfl, ?_, ?_, ?_⟩), ?_⟩ <;> simp [sC, pk, pot, lt] <;> omega
      · refine ⟨.inr (.inl ⟨rfl, rfl, ?_, ?_, ?_⟩), ?_⟩ <;> simp [sC, pk, pot, lt] <;> omega
  · omega
theorem hd_bit {w : List Int} {nx : Int} (h : Bits w) (hn : nx = 0 ∨ nx = 1) : hd w nx = 0 ∨ hd w nx = 1 := by
  cases w with
  | nil => exact hn
  | cons b w => exact h.hd
theorem lds_kp {k : Int} (hk : 1 ≤ k) {nx : Int} (hn : nx = 0 ∨ nx = 1) : ∀ (w : List Int) (p c c' : Int), Bits w → RK k p (hd w nx) c c' →
    lds k w c + pot p (hd w nx) c c' = dn w nx + lds (k - 1) (kp p w nx) c' + pot (lastL p w) nx (fin k w c) (fin (k - 1) (kp p w nx) c') ∧ RK k (lastL p w) nx (fin k w c) (fin (k - 1) (kp p w nx) c')
  | [], p, c, c', _, h => ⟨by simp [lds, dn, kp, lastL, fin, hd], h⟩
  | b :: w, p, c, c', hw, h => by
    have h : RK k p b c c' := h
    have hdb := hd_bit hw.tl hn
    show pk k b c + lds k w (sC k b c) + pot p b c c' = _ + dn w nx + _ + _ ∧ _
    by_cases g : gonP p b (hd w nx) = true
    · obtain ⟨r, e⟩ := kp_gone hk hw.hd hdb h g
      have ih := lds_kp hk hn w b _ _ hw.tl r
      have ek : kp p (b :: w) nx = kp b w nx := by show (if _ then _ else _) = _; rw [if_pos g]
      rw [ek]
      refine ⟨?_, ih.2⟩
      have := ih.1
      show _ = (if b = 1 ∧ hd w nx = 0 then (1 : Int) else 0) + dn w nx + lds (k - 1) (kp b w nx) c' + pot (lastL b w) nx (fin k w (sC k b c)) (fin (k - 1) (kp b w nx) c')
      omega
    · obtain ⟨r, e⟩ := kp_stay hk hw.hd hdb h g
      have ih := lds_kp hk hn w b _ _ hw.tl r
      have ek : kp p (b :: w) nx = b :: kp b w nx := by show (if _ then _ else _) = _; rw [if_neg g]
      rw [ek]
      refine ⟨?_, ih.2⟩
      have := ih.1
      show _ = (if b = 1 ∧ hd w nx = 0 then (1 : Int) else 0) + dn w nx + (pk (k - 1) b c' + lds (k - 1) (kp b w nx) (sC (k - 1) b c')) + pot (lastL b w) nx (fin k w (sC k b c)) (fin (k - 1) (kp b w nx) (sC (k - 1) b c'))
      omega
theorem kp_bits : ∀ {p : Int} {w : List Int} {nx : Int}, Bits w → Bits (kp p w nx)
  | _, [], _, h => h
  | p, b :: w, nx, h => by
    unfold kp
    split
    · exact kp_bits h.tl
    · intro x hx
      rcases List.mem_cons.mp hx with rfl | hx
      · exact h.hd
      · exact kp_bits h.tl x hx
/-- as many balls as empty boxes go -/
theorem kp_bal {nx : Int} (hn : nx = 0 ∨ nx = 1) : ∀ {p : Int} {w : List Int}, Bits w → (p = 0 ∨ p = 1) → (kp p w nx).sum + dn w nx = w.sum ∧
    2 * (kp p w nx).sum - (kp p w nx).length = 2 * w.sum - w.length + ((if p = 1 ∧ hd w nx = 0 then 1 else 0) - (if lastL p w = 1 ∧ nx = 0 then 1 else 0)) ∧ (kp p w nx).length ≤ w.length
  | p, [], _, _ => by simp [kp, dn, lastL, hd]; omega
  | p, b :: w, h, hp => by
    obtain ⟨i1, i2, i3⟩ := kp_bal hn (p := b) h.tl h.hd
    have hdb := hd_bit h.tl hn
    rw [show kp p (b :: w) nx = if gonP p b (hd w nx) = true then kp b w nx else b :: kp b w nx from rfl, show hd (b :: w) nx = b from rfl, show dn (b :: w) nx = (if b = 1 ∧ hd w nx = 0 then (1 : Int) else 0) + dn w nx from rfl, show lastL p (b :: w) = lastL b w from rfl, List.sum_cons, List.length_cons]
    split
    · rename_i g
      unfold gonP at g
      simp only [decide_eq_true_eq] at g
      generalize hd w nx = d at *
      refine ⟨?_, ?_, by omega⟩
      · rcases h.hd with rfl | rfl
        · simp; omega
        · have : d = 0 := by omega
          subst this
          simp
          omega
      · rcases h.hd with rfl | rfl
        · have : p = 1 := by omega
          subst this
          simp at i2 ⊢
          omega
        · have : d = 0 := by omega
          subst this
          simp at i2 ⊢
          omega
    · rename_i g
      unfold gonP at g
      simp only [decide_eq_true_eq] at g
      generalize hd w nx = d at *
      simp only [List.sum_cons, List.length_cons]
      refine ⟨?_, ?_, by omega⟩
      · rcases h.hd with rfl | rfl
        · simp; omega
        · have : d = 1 := by omega
          subst this
          simp
          omega
      · rcases h.hd with rfl | rfl
        · have : p = 0 := by omega
          subst this
          simp at i2 ⊢
          omega
        · have : d = 1 := by omega
          subst this
          simp at i2 ⊢
          omega
theorem lastL_bit : ∀ {p : Int} {w : List Int}, Bits w → (p = 0 ∨ p = 1) → (lastL p w = 0 ∨ lastL p w = 1)
  | p, [], _, h => h
  | p, b :: w, h, _ => lastL_bit (p := b) h.tl h.hd
theorem lastL_any : ∀ {w : List Int} (p q : Int), w ≠ [] → lastL p w = lastL q w
  | [], _, _, h => absurd rfl h
  | b :: w, p, q, _ => rfl
theorem last_fin {k : Int} : ∀ {p : Int} {w : List Int} {c : Int}, w ≠ [] → Bits w → 0 ≤ c → c ≤ k → 1 ≤ k → (lastL p w = 0 → fin k w c ≤ k - 1) ∧ (lastL p w = 1 → 1 ≤ fin k w c)
  | p, [], c, h, _, _, _, _ => absurd rfl h
  | p, [b], c, _, hw, h0, h1, hk => by
    show (b = 0 → sC k b c ≤ k - 1) ∧ (b = 1 → 1 ≤ sC k b c)
    refine ⟨fun e => ?_, fun e => ?_⟩
    · subst e
      simp [sC]
      split <;> omega
    · subst e
      simp [sC]
      split <;> omega
  | p, b :: b2 :: w, c, _, hw, h0, h1, hk => by
    have := sC_bd (b := b) h0 h1
    exact last_fin (p := b) (w := b2 :: w) (by simp) hw.tl this.1 this.2 hk
theorem bits_nn : ∀ {w : List Int}, Bits w → 0 ≤ w.sum
  | [], _ => by simp
  | b :: w, hb => by
    have := bits_nn hb.tl
    rw [List.sum_cons]
    rcases hb.hd with rfl | rfl <;> omega
/-- what stays of a ring -/
def stay (w : List Int) : List Int := kp (lastL 0 w) w (hd w 0)
def nPairs (w : List Int) : Int := dn w (hd w 0)
theorem stay_ring {w : List Int} (h : Ring w) : Ring (stay w) ∧ (stay w).sum + nPairs w = w.sum := by
  have ne : w ≠ [] := fun e => by
    have := h.p
    rw [e] at this
    simp at this
  have hb := hd_bit h.b (.inl rfl : (0 : Int) = 0 ∨ (0 : Int) = 1)
  have lb := lastL_bit h.b (.inl rfl : (0 : Int) = 0 ∨ (0 : Int) = 1)
  obtain ⟨b1, b2, b3⟩ := kp_bal hb (p := lastL 0 w) h.b lb
  have hh : hd w (hd w 0) = hd w 0 := by cases w <;> rfl
  rw [hh, lastL_any (lastL 0 w) 0 ne] at b2
  have nn := bits_nn (kp_bits (p := lastL 0 w) (nx := hd w 0) h.b)
  have hs := h.s
  have hm := h.m
  exact ⟨⟨kp_bits h.b, by unfold stay; omega, by unfold stay; omega, by unfold stay; omega⟩, b1⟩
/-- one step of the elimination -/
theorem en_stay {k : Int} (hk : 1 ≤ k) {w : List Int} (h : Ring w) : En k w = nPairs w + En (k - 1) (stay w) := by
  have ne : w ≠ [] := fun e => by
    have := h.p
    rw [e] at this
    simp at this
  have hb := hd_bit h.b (.inl rfl : (0 : Int) = 0 ∨ (0 : Int) = 1)
  have lb := lastL_bit h.b (.inl rfl : (0 : Int) = 0 ∨ (0 : Int) = 1)
  have hh : hd w (hd w 0) = hd w 0 := by cases w <;> rfl
  have hl := lastL_any (lastL 0 w) 0 ne
  have hc := cnt_bd (l := k) (w := w) (by omega)
  have f := cnt_fix (l := k) (by omega) h
  have lf := last_fin (k := k) (p := 0) ne h.b hc.1 hc.2 hk
  rw [f] at lf
  obtain ⟨c', r0⟩ : ∃ c', RK k (lastL 0 w) (hd w 0) (cnt k w) c' := by
    rcases lb with e | e
    · exact ⟨_, .inl ⟨e, rfl, hc.1, lf.1 e⟩⟩
    · rcases hb with e2 | e2
      · exact ⟨_, .inr (.inr ⟨e, e2, lf.2 e, hc.2, rfl⟩)⟩
      · exact ⟨_, .inr (.inl ⟨e, e2, lf.2 e, hc.2, rfl⟩)⟩
  have L := lds_kp hk hb w (lastL 0 w) (cnt k w) c' h.b (by rw [hh]; exact r0)
  rw [hh, hl, f] at L
  obtain ⟨L1, L2⟩ := L
  have same : fin (k - 1) (kp (lastL 0 w) w (hd w 0)) c' = c' := by
    generalize fin (k - 1) (kp (lastL 0 w) w (hd w 0)) c' = y at *
    unfold RK at r0 L2
    omega
  rw [same] at L1
  have bd : 0 ≤ c' ∧ c' ≤ k - 1 := by unfold RK at r0; omega
  have := en_of (l := k - 1) (stay_ring h).1 bd.1 bd.2 same
  rw [this]
  unfold En nPairs stay
  omega
end DL
namespace DL
/-! ### strings of one colour against carriers -/
def QS (S : SL) (k : Int) : Int := bx (S.map (·.1)) k
theorem bestGo_max (p : Int × Int → Bool) : ∀ (r : SL) (k : Nat) (b : Option (Nat × Int)),
    (∀ s ∈ r, p s = true → ∃ i l, bestGo p r k b = some (i, l) ∧ s.1 ≤ l) ∧ (∀ i l, b = some (i, l) → ∃ i' l', bestGo p r k b = some (i', l') ∧ l ≤ l')
  | [], k, b => ⟨fun s h => absurd h List.not_mem_nil, fun i l e => ⟨i, l, e, Int.le_refl l⟩⟩
  | t :: r, k, b => by
    have ih := bestGo_max p r (k + 1) (if p t = true ∧ (b.all fun q => decide (q.2 < t.1)) = true then some (k, t.1) else b)
    refine ⟨fun s hs ps => ?_, fun i l e => ?_⟩
    · rcases List.mem_cons.mp hs with rfl | hs
      · by_cases c : (b.all fun q => decide (q.2 < s.1)) = true
        · have := ih.2 k s.1 (by rw [if_pos ⟨ps, c⟩])
          exact this
        · cases b with
          | none => simp at c
          | some q =>
            have c' : ¬ q.2 < s.1 := by simpa using c
            obtain ⟨i', l', e1, e2⟩ := ih.2 q.1 q.2 (by rw [if_neg (by simp; intro _; omega)])
            exact ⟨i', l', e1, by omega⟩
      · exact ih.1 s hs ps
    · subst e
      by_cases c : p t = true ∧ ((some (i, l)).all fun q => decide (q.2 < t.1)) = true
      · obtain ⟨i', l', e1, e2⟩ := ih.2 k t.1 (by rw [if_pos c])
        have : l < t.1 := by simpa using c.2
        exact ⟨i', l', e1, by omega⟩
      · exact ih.2 i l (by rw [if_neg c])
theorem bestGo_p (p : Int × Int → Bool) (ss : SL) : ∀ (r : SL) (k : Nat) (b : Option (Nat × Int)), ss.drop k = r → (∀ i l, b = some (i, l) → ∃ j, ss[i]? = some (l, j) ∧ p (l, j) = true) → ∀ i l, bestGo p r k b = some (i, l) → ∃ j, ss[i]? = some (l, j) ∧ p (l, j) = true
  | [], _, b, _, h => h
  | s :: r, k, b, hd, h => by
    have e : ss[k]? = some s := by
      have := List.getElem?_drop (xs := ss) (i := k) (j := 0)
      rw [hd] at this
      simpa using this.symm
    refine bestGo_p p ss r (k + 1) _ ?_ ?_
    · rw [← List.drop_drop, hd]
      rfl
    · split
      · rename_i c
        intro i l e2
        cases e2
        exact ⟨s.2, e, c.1⟩
      · exact h
/-- one ball of the colour 1 -/
def sing (S : SL) (x : Int) (s : Int × Int) : Bool := decide (s.2 = x - 2 * QS S s.1)
def one1 (S : SL) (x : Int) : SL := match bestGo (sing S x) S 0 none with
  | none => S ++ [(1, x + 1 - 2 * (QS S 1 + 1))]
  | some (i, l) => S.set i (l + 1, x + 1 - 2 * (QS S (l + 1) + 1))
theorem bx_app (a b : List Int) (k : Int) : bx (a ++ b) k = bx a k + bx b k := by unfold bx; rw [List.map_append, List.sum_append]
theorem sum_setI : ∀ {l : List Int} {i : Nat} {y z : Int}, l[i]? = some y → (l.set i z).sum = l.sum - y + z
  | [], _, _, _, h => by simp at h
  | a :: r, 0, y, z, h => by
    simp at h
    subst h
    simp only [List.set_cons_zero, List.sum_cons]
    omega
  | a :: r, i + 1, y, z, h => by
    have := sum_setI (l := r) (i := i) (y := y) (z := z) (by simpa using h)
    simp only [List.set_cons_succ, List.sum_cons, this]
    omega
theorem QS_set {S : SL} {i : Nat} {l j l2 j2 : Int} (h : S[i]? = some (l, j)) (k : Int) : QS (S.set i (l2, j2)) k = QS S k - (if l < k then l else k) + (if l2 < k then l2 else k) := by
  unfold QS bx
  rw [List.map_set, List.map_set]
  exact sum_setI (by rw [List.getElem?_map, List.getElem?_map, h]; rfl)
theorem QS_snoc (S : SL) (l j k : Int) : QS (S ++ [(l, j)]) k = QS S k + (if l < k then l else k) := by
  unfold QS
  rw [List.map_append, bx_app]
  simp [bx]
theorem chosen1 (S : SL) (x : Int) : chosen [S, [], []] 1 x = [bestGo (sing S x) S 0 none] := by
  show [bestGo (okS [S, [], []] 1 x none) S 0 none] = _
  have : okS [S, [], []] 1 x none = sing S x := by
    funext s
    unfold okS sing vac shp QS
    have b0 : bx [] s.1 = 0 := rfl
    simp [b0]
  rw [this]
theorem oneB1 (S : SL) (x : Int) : oneB [S, [], []] (x, 1) = [one1 S x, [], []] := by
  have c := chosen1 S x
  unfold oneB
  show grown [S, [], []] (chosen [S, [], []] 1 x) 1 x = _
  rw [c]
  have a := bestGo_at (sing S x) S S 0 none rfl (at_none _)
  generalize hb : bestGo (sing S x) S 0 none = b at *
  show [(long1 b S).set (plc b S) (nlen b, vac (shp [long1 b S, [], []]) (0 + 1) (nlen b) (x + 1)), [], []] = _
  have v : vac (shp [long1 b S, [], []]) (0 + 1) (nlen b) (x + 1) = x + 1 - 2 * QS (long1 b S) (nlen b) := by
    unfold vac shp QS
    have b0 : bx [] (nlen b) = 0 := rfl
    simp [b0]
  rw [v]
  unfold one1
  rw [hb]
  cases b with
  | none =>
    simp only [long1, plc, nlen]
    rw [QS_snoc]
    simp
  | some q =>
    obtain ⟨i, l⟩ := q
    obtain ⟨j, e⟩ := a i l rfl
    simp only [long1, plc, nlen]
    rw [QS_set e, List.set_set]
    have : QS S (l + 1) - (if l < l + 1 then l else l + 1) + (if l + 1 < l + 1 then l + 1 else l + 1) = QS S (l + 1) + 1 := by
      rw [if_pos (by omega), if_neg (by omega)]
      omega
    rw [this]
/-- the length of the chosen string -/
def mLen (S : SL) (x : Int) : Int := (bestGo (sing S x) S 0 none).elim 0 (·.2)
theorem fin_snoc {l : Int} (w : List Int) (b c : Int) : fin l (w ++ [b]) c = sC l b (fin l w c) := by rw [fin_app]; rfl
theorem lds_snoc {l : Int} (w : List Int) (b c : Int) : lds l (w ++ [b]) c = lds l w c + pk l b (fin l w c) := by
  rw [lds_app]
  simp [lds]
structure KI (w : List Int) (S : SL) : Prop where
  cr : ∀ s ∈ S, 1 ≤ s.1 ∧ s.2 ≤ w.length - 2 * QS S s.1
  q : ∀ l, 0 ≤ l → QS S l = lds l w 0
  up : ∀ l, 0 ≤ l → ∀ s ∈ S, min l s.1 - (w.length - 2 * QS S s.1 - s.2) ≤ fin l w 0
  at_ : ∀ l, 0 ≤ l → fin l w 0 = 0 ∨ ∃ s ∈ S, fin l w 0 = min l s.1 - (w.length - 2 * QS S s.1 - s.2)
theorem ki_nil : KI [] [] := ⟨fun s h => absurd h List.not_mem_nil, fun l _ => rfl, fun l _ s h => absurd h List.not_mem_nil, fun l _ => .inl rfl⟩
theorem ki_zero {w : List Int} {S : SL} (h : KI w S) : KI (w ++ [0]) S := by
  have el : ((w ++ [0]).length : Int) = w.length + 1 := by simp
  refine ⟨fun s hs => ?_, fun l hl => ?_, fun l hl s hs => ?_, fun l hl => ?_⟩
  · have := h.cr s hs
    rw [el]
    omega
  · rw [lds_snoc, h.q l hl]
    simp [pk]
  · rw [el, fin_snoc]
    have := h.up l hl s hs
    have c0 := (fin_bd (l := l) w (Int.le_refl 0) hl).1
    have e : sC l 0 (fin l w 0) = if 0 < fin l w 0 then fin l w 0 - 1 else fin l w 0 := by simp [sC]
    rw [e]
    split <;> omega
  · rw [el, fin_snoc]
    have c0 := (fin_bd (l := l) w (Int.le_refl 0) hl).1
    have e : sC l 0 (fin l w 0) = if 0 < fin l w 0 then fin l w 0 - 1 else fin l w 0 := by simp [sC]
    rw [e]
    rcases h.at_ l hl with a | ⟨s, hs, a⟩
    · left
      rw [if_neg (by omega)]
      exact a
    · by_cases c : 0 < fin l w 0
      · right
        refine ⟨s, hs, ?_⟩
        rw [if_pos c]
        omega
      · left
        rw [if_neg c]
        omega
theorem ki_one {w : List Int} {S : SL} (h : KI w S) : KI (w ++ [1]) (one1 S w.length) := by
  have el : ((w ++ [1]).length : Int) = w.length + 1 := by simp
  generalize hx : (w.length : Int) = x at *
  -- the chosen string
  obtain ⟨m, m0, mS, mTop, hQ, mem1, mem2, mem3⟩ : ∃ m : Int, 0 ≤ m ∧ (m = 0 ∨ ∃ s ∈ S, s.1 = m ∧ s.2 = x - 2 * QS S s.1) ∧ (∀ s ∈ S, m < s.1 → s.2 ≠ x - 2 * QS S s.1) ∧
      (∀ k, 0 ≤ k → QS (one1 S x) k = QS S k + (if m < k then 1 else 0)) ∧ (∀ s ∈ one1 S x, s ∈ S ∨ s = (m + 1, x + 1 - 2 * QS (one1 S x) (m + 1))) ∧ (m + 1, x + 1 - 2 * QS (one1 S x) (m + 1)) ∈ one1 S x ∧ (∀ s ∈ S, m < s.1 → s ∈ one1 S x) := by
    have mx := (bestGo_max (sing S x) S 0 none).1
    have pp := bestGo_p (sing S x) S S 0 none rfl (fun i l e => by cases e)
    cases hb : bestGo (sing S x) S 0 none with
    | none =>
      have no : ∀ s ∈ S, s.2 ≠ x - 2 * QS S s.1 := fun s hs e => by
        obtain ⟨i, l, e1, _⟩ := mx s hs (by simp [sing, e])
        rw [hb] at e1
        cases e1
      have e1 : one1 S x = S ++ [(1, x + 1 - 2 * (QS S 1 + 1))] := by unfold one1; rw [hb]
      have q1 : ∀ k, 0 ≤ k → QS (one1 S x) k = QS S k + (if (0 : Int) < k then 1 else 0) := fun k hk => by
        rw [e1, QS_snoc]
        split <;> split <;> omega
      have v1 : x + 1 - 2 * (QS S 1 + 1) = x + 1 - 2 * QS (one1 S x) (0 + 1) := by rw [q1 _ (by omega)]; simp
      refine ⟨0, Int.le_refl 0, .inl rfl, fun s hs _ => no s hs, q1, fun s hs => ?_, ?_, fun s hs _ => ?_⟩
      · rw [e1] at hs
        rcases List.mem_append.mp hs with hs | hs
        · exact .inl hs
        · right
          rw [List.mem_singleton.mp hs, v1]
          rfl
      · rw [← v1, e1]
        simp
      · rw [e1]
        exact List.mem_append_left _ hs
    | some q =>
      obtain ⟨i, l⟩ := q
      obtain ⟨j, ej, pj⟩ := pp i l hb
      have hi : i < S.length := (List.getElem?_eq_some_iff.mp ej).1
      have sj : (l, j) ∈ S := List.mem_of_getElem? ej
      have jv : j = x - 2 * QS S l := by simpa [sing] using pj
      have l1 := (h.cr _ sj).1
      have e1 : one1 S x = S.set i (l + 1, x + 1 - 2 * (QS S (l + 1) + 1)) := by unfold one1; rw [hb]
      have q1 : ∀ k, 0 ≤ k → QS (one1 S x) k = QS S k + (if l < k then 1 else 0) := fun k hk => by
        rw [e1, QS_set ej]
        split <;> split <;> omega
      have v1 : x + 1 - 2 * (QS S (l + 1) + 1) = x + 1 - 2 * QS (one1 S x) (l + 1) := by rw [q1 _ (by simp at l1; omega), if_pos (by omega)]
      refine ⟨l, by simp at l1; omega, .inr ⟨_, sj, rfl, jv⟩, fun s hs lt e => ?_, q1, fun s hs => ?_, ?_, fun s hs lt => ?_⟩
      · obtain ⟨i', l', e2, e3⟩ := mx s hs (by simp [sing, e])
        rw [hb] at e2
        cases e2
        omega
      · rw [e1] at hs
        rcases List.mem_or_eq_of_mem_set hs with hs | hs
        · exact .inl hs
        · right
          rw [hs, v1]
      · rw [← v1, e1]
        exact List.mem_set hi _
      · rw [e1]
        obtain ⟨n, hn⟩ := List.mem_iff_getElem?.mp hs
        have ne : i ≠ n := fun e => by
          subst e
          rw [ej] at hn
          cases hn
          simp at lt
        exact List.mem_of_getElem? (i := n) (by rw [List.getElem?_set_ne ne]; exact hn)
  have crB : ∀ s ∈ S, m < s.1 → s.2 + 1 ≤ x - 2 * QS S s.1 := fun s hs lt => by
    have a := (h.cr s hs).2
    have b := mTop s hs lt
    rw [hx] at a
    omega
  have newQ : QS (one1 S x) (m + 1) = QS S (m + 1) + 1 := by rw [hQ _ (by omega), if_pos (by omega)]
  have lv : ∀ l, 0 ≤ l → (fin l w 0 < l ↔ m < l) ∧ m ≤ max (fin l w 0) m ∧ (m < l → m ≤ fin l w 0) ∧ (l ≤ m → fin l w 0 = l) := fun l hl => by
    have bd := fin_bd (l := l) w (Int.le_refl 0) hl
    have ch : ∀ t : Int, (m = 0 ∨ ∃ s ∈ S, s.1 = m ∧ s.2 = x - 2 * QS S s.1) → (m = 0 ∨ min l m ≤ fin l w 0) := fun _ hm => by
      rcases hm with e | ⟨s, hs, e1, e2⟩
      · exact .inl e
      · right
        have := h.up l hl s hs
        rw [hx, e2, e1] at this
        omega
    have c1 := ch 0 mS
    refine ⟨⟨fun lt => ?_, fun lt => ?_⟩, by omega, fun lt => ?_, fun le => ?_⟩
    · rcases c1 with e | e <;> omega
    · rcases h.at_ l hl with e | ⟨s, hs, e⟩
      · omega
      · rw [hx] at e
        have cr := (h.cr s hs).2
        rw [hx] at cr
        by_cases big : m < s.1
        · have := crB s hs big
          omega
        · omega
    · rcases c1 with e | e <;> omega
    · rcases c1 with e | e <;> omega
  refine ⟨fun s hs => ?_, fun l hl => ?_, fun l hl s hs => ?_, fun l hl => ?_⟩
  · rw [el]
    rcases mem1 s hs with hs | rfl
    · have c1 := h.cr s hs
      rw [hx] at c1
      rw [hQ _ (by omega)]
      refine ⟨c1.1, ?_⟩
      split
      · rename_i lt
        have := crB s hs lt
        omega
      · omega
    · exact ⟨by show 1 ≤ m + 1; omega, by show _ ≤ x + 1 - 2 * QS (one1 S x) (m + 1); omega⟩
  · rw [lds_snoc, hQ l hl, h.q l hl]
    have := (lv l hl).1
    unfold pk
    by_cases c : m < l
    · rw [if_pos c, if_pos ⟨rfl, this.mpr c⟩]
    · rw [if_neg c, if_neg (by intro z; exact c (this.mp z.2))]
  · rw [el, fin_snoc]
    obtain ⟨v1, v2, v3, v4⟩ := lv l hl
    have e : sC l 1 (fin l w 0) = if fin l w 0 < l then fin l w 0 + 1 else fin l w 0 := by simp [sC]
    rw [e]
    rcases mem1 s hs with hs | rfl
    · have c1 := h.cr s hs
      have c2 := h.up l hl s hs
      rw [hx] at c1 c2
      rw [hQ _ (by omega)]
      by_cases lt : m < s.1
      · have := crB s hs lt
        rw [if_pos lt]
        split
        · omega
        · have : ¬ m < l := fun z => by rename_i n; exact n (v1.mpr z)
          have := v4 (by omega)
          omega
      · rw [if_neg lt]
        split <;> omega
    · show min l (m + 1) - (x + 1 - 2 * QS (one1 S x) (m + 1) - (x + 1 - 2 * QS (one1 S x) (m + 1))) ≤ _
      split
      · rename_i n
        have := v3 (v1.mp n)
        omega
      · rename_i n
        have : ¬ m < l := fun z => n (v1.mpr z)
        have := v4 (by omega)
        omega
  · rw [el, fin_snoc]
    obtain ⟨v1, v2, v3, v4⟩ := lv l hl
    have bd := fin_bd (l := l) w (Int.le_refl 0) hl
    have e : sC l 1 (fin l w 0) = if fin l w 0 < l then fin l w 0 + 1 else fin l w 0 := by simp [sC]
    rw [e]
    have new : ∀ y : Int, y = min l (m + 1) → ∃ s ∈ one1 S x, y = min l s.1 - (x + 1 - 2 * QS (one1 S x) s.1 - s.2) := fun y hy => ⟨_, mem2, by show y = min l (m + 1) - (x + 1 - 2 * QS (one1 S x) (m + 1) - (x + 1 - 2 * QS (one1 S x) (m + 1))); omega⟩
    by_cases n : fin l w 0 < l
    · rw [if_pos n]
      have ml := v1.mp n
      have m3 := v3 ml
      rcases h.at_ l hl with a | ⟨s, hs, a⟩
      · exact .inr (new _ (by omega))
      · rw [hx] at a
        have cr := (h.cr s hs)
        rw [hx] at cr
        by_cases big : m < s.1
        · right
          refine ⟨s, mem3 s hs big, ?_⟩
          rw [hQ _ (by omega), if_pos big]
          omega
        · exact .inr (new _ (by omega))
    · rw [if_neg n]
      have : ¬ m < l := fun z => n (v1.mpr z)
      have := v4 (by omega)
      exact .inr (new _ (by omega))
/-- the balls of a word of boxes, from a place on -/
def ballsF (x : Int) : List Int → List (Int × Int)
  | [] => []
  | b :: w => if b = 1 then (x, 1) :: ballsF (x + 1) w else ballsF (x + 1) w
theorem ki_run : ∀ (v u : List Int) (S : SL) (tr : List (List Int)), Bits v → KI u S → ∃ S' tr', listsG [S, [], []] tr (ballsF u.length v) = ([S', [], []], tr') ∧ KI (u ++ v) S'
  | [], u, S, tr, _, h => ⟨S, tr, rfl, by rw [List.append_nil]; exact h⟩
  | b :: v, u, S, tr, hb, h => by
    have el : ((u ++ [b]).length : Int) = u.length + 1 := by simp
    rcases hb.hd with rfl | rfl
    · obtain ⟨S', tr', e1, e2⟩ := ki_run v (u ++ [0]) S tr hb.tl (ki_zero h)
      rw [el] at e1
      exact ⟨S', tr', by show listsG _ _ (if (0 : Int) = 1 then _ else _) = _; rw [if_neg (by omega)]; exact e1, by simpa using e2⟩
    · obtain ⟨S', tr', e1, e2⟩ := ki_run v (u ++ [1]) (one1 S u.length) (tr ++ [trc [S, [], []] (u.length, 1)]) hb.tl (ki_one h)
      rw [el] at e1
      refine ⟨S', tr', ?_, by simpa using e2⟩
      show listsG _ _ (if (1 : Int) = 1 then ((u.length : Int), (1 : Int)) :: ballsF (u.length + 1) v else _) = _
      rw [if_pos rfl]
      show listsG (oneB [S, [], []] (u.length, 1)) _ _ = _
      rw [oneB1]
      exact e1
/-- the strings of the balls of a word of boxes -/
theorem ki_all {w : List Int} (h : Bits w) : ∃ S tr, listsOf (ballsF 0 w) = ([S, [], []], tr) ∧ KI w S := by
  obtain ⟨S, tr, e1, e2⟩ := ki_run w [] [] [] h ki_nil
  exact ⟨S, tr, e1, by simpa using e2⟩
end DL
namespace DL
/-! ### the shape by taking away pairs -/
theorem dn_nn : ∀ (w : List Int) (nx : Int), 0 ≤ dn w nx
  | [], _ => Int.le_refl 0
  | b :: w, nx => by
    have := dn_nn w nx
    show 0 ≤ (if b = 1 ∧ hd w nx = 0 then (1 : Int) else 0) + dn w nx
    split <;> omega
theorem dn_end : ∀ {w : List Int} {nx : Int}, Bits w → (nx = 0 ∨ nx = 1) → dn w nx = 0 → 1 ∈ w → nx = 1
  | [], _, _, _, _, h => absurd h List.not_mem_nil
  | b :: w, nx, hb, hn, h0, h1 => by
    have nn := dn_nn w nx
    have e : (if b = 1 ∧ hd w nx = 0 then (1 : Int) else 0) + dn w nx = 0 := h0
    have e2 : dn w nx = 0 := by split at e <;> omega
    rcases List.mem_cons.mp h1 with q | q
    · cases w with
      | nil =>
        have : hd [] nx = nx := rfl
        rcases hn with rfl | rfl
        · rw [if_pos ⟨q.symm, rfl⟩] at e; omega
        · rfl
      | cons c w =>
        rcases hb.tl.hd with rfl | rfl
        · rw [if_pos ⟨q.symm, rfl⟩] at e; omega
        · exact dn_end hb.tl hn e2 List.mem_cons_self
    · exact dn_end hb.tl hn e2 q
theorem dn_full : ∀ {w : List Int} {nx : Int}, Bits w → (nx = 0 ∨ nx = 1) → dn w nx = 0 → hd w nx = 1 → w.sum = w.length
  | [], _, _, _, _, _ => by simp
  | b :: w, nx, hb, hn, h0, h1 => by
    have nn := dn_nn w nx
    have e : (if b = 1 ∧ hd w nx = 0 then (1 : Int) else 0) + dn w nx = 0 := h0
    have e2 : dn w nx = 0 := by split at e <;> omega
    have b1 : b = 1 := h1
    subst b1
    have hh := hd_bit hb.tl hn
    have : hd w nx = 1 := by
      rcases hh with q | q
      · rw [if_pos ⟨rfl, q⟩] at e; omega
      · exact q
    have := dn_full hb.tl hn e2 this
    rw [List.sum_cons, this]
    simp
    omega
theorem one_in : ∀ {w : List Int}, Bits w → 0 < w.sum → 1 ∈ w
  | [], _, h => by simp at h
  | b :: w, hb, h => by
    rcases hb.hd with rfl | rfl
    · rw [List.sum_cons] at h
      exact List.mem_cons_of_mem _ (one_in hb.tl (by omega))
    · exact List.mem_cons_self
theorem pairs_pos {w : List Int} (h : Ring w) (hs : 0 < w.sum) : 1 ≤ nPairs w := by
  have hb := hd_bit h.b (.inl rfl : (0 : Int) = 0 ∨ (0 : Int) = 1)
  have nn := dn_nn w (hd w 0)
  by_cases c : nPairs w = 0
  · exfalso
    have e := dn_end h.b hb c (one_in h.b hs)
    have hh : hd w (hd w 0) = hd w 0 := by cases w <;> rfl
    have f := dn_full h.b hb c (by rw [hh, e])
    have := h.s
    have := h.p
    omega
  · unfold nPairs at *
    omega
/-- the numbers of pairs, step by step -/
inductive Elim : List Int → List Int → Prop
  | done {w : List Int} : w.sum = 0 → Elim w []
  | more {w cs : List Int} : 0 < w.sum → Elim (stay w) cs → Elim w (nPairs w :: cs)
theorem elim_ex : ∀ (n : Nat) {w : List Int}, Ring w → w.sum ≤ n → ∃ cs, Elim w cs ∧ cs.length ≤ n
  | 0, w, h, hn => ⟨[], .done (by have := bits_nn h.b; omega), Nat.le_refl _⟩
  | n + 1, w, h, hn => by
    have nn := bits_nn h.b
    by_cases c : w.sum = 0
    · exact ⟨[], .done c, by simp⟩
    · have pp := pairs_pos h (by omega)
      obtain ⟨sr, ss⟩ := stay_ring h
      obtain ⟨cs, e, l⟩ := elim_ex n sr (by omega)
      exact ⟨_, .more (by omega) e, by simpa using l⟩
theorem elim_sum {w cs : List Int} (e : Elim w cs) (h : Ring w) : cs.sum = w.sum := by
  induction e with
  | done z => simpa using z.symm
  | more z _ ih =>
    obtain ⟨sr, ss⟩ := stay_ring h
    rw [List.sum_cons, ih sr]
    omega
theorem lds_zero {l : Int} : ∀ (w : List Int) (c : Int), Bits w → w.sum = 0 → lds l w c = 0
  | [], _, _, _ => rfl
  | b :: w, c, hb, h => by
    have nn := bits_nn hb.tl
    rw [List.sum_cons] at h
    have b0 : b = 0 := by rcases hb.hd with e | e <;> omega
    subst b0
    show pk l 0 c + lds l w (sC l 0 c) = 0
    rw [lds_zero w _ hb.tl (by omega)]
    simp [pk]
theorem lds_room0 : ∀ (w : List Int) (c : Int), 0 ≤ c → lds 0 w c = 0
  | [], _, _ => rfl
  | b :: w, c, h => by
    show pk 0 b c + lds 0 w (sC 0 b c) = 0
    have p : pk 0 b c = 0 := by
      unfold pk
      rw [if_neg (by omega)]
    have s : 0 ≤ sC 0 b c := by
      unfold sC
      split
      · omega
      · split <;> omega
    rw [p, lds_room0 w _ s]
    rfl
theorem elim_en {w cs : List Int} (e : Elim w cs) (h : Ring w) : ∀ k : Nat, En (k : Int) w = (cs.take k).sum := by
  induction e with
  | done z =>
    intro k
    unfold En
    rw [lds_zero _ _ h.b z]
    simp
  | more z _ ih =>
    intro k
    cases k with
    | zero =>
      unfold En
      rw [show ((0 : Nat) : Int) = 0 from rfl, lds_room0 _ _ (cnt_bd (Int.le_refl 0)).1]
      rfl
    | succ k =>
      rw [en_stay (by omega) h, show ((k + 1 : Nat) : Int) - 1 = (k : Int) by omega, ih (stay_ring h).1 k, List.take_succ_cons, List.sum_cons]
/-! parts and counts -/
def nGt (ls : List Int) (k : Int) : Nat := ls.countP fun m => decide (k < m)
theorem bx_step (ls : List Int) (k : Int) : bx ls (k + 1) = bx ls k + nGt ls k := by
  induction ls with
  | nil => rfl
  | cons m r ih =>
    have b : ∀ j, bx (m :: r) j = (if m < j then m else j) + bx r j := fun j => by unfold bx; simp
    have c : nGt (m :: r) k = nGt r k + if k < m then 1 else 0 := by
      unfold nGt
      rw [List.countP_cons]
      simp
    rw [b, b, ih, c]
    split <;> split <;> split <;> simp <;> omega
theorem nGt_iff : ∀ {ls : List Int} {k : Int} {i : Nat}, ls.Pairwise (· ≥ ·) → (i < nGt ls k ↔ ∃ m, ls[i]? = some m ∧ k < m)
  | [], k, i, _ => by simp [nGt]
  | a :: r, k, i, h => by
    have h' := List.pairwise_cons.mp h
    have c : nGt (a :: r) k = nGt r k + if k < a then 1 else 0 := by
      unfold nGt
      rw [List.countP_cons]
      simp
    by_cases ka : k < a
    · rw [c, if_pos ka]
      cases i with
      | zero => simp [ka]
      | succ i =>
        have := nGt_iff (k := k) (i := i) h'.2
        rw [show i + 1 < nGt r k + 1 ↔ i < nGt r k by omega, this]
        simp
    · have z : nGt r k = 0 := by
        unfold nGt
        rw [List.countP_eq_zero]
        intro m hm
        have := h'.1 m hm
        simp
        omega
      rw [c, if_neg ka, z]
      constructor
      · intro q; omega
      · rintro ⟨m, e1, e2⟩
        have hm := List.mem_of_getElem? e1
        rcases List.mem_cons.mp hm with rfl | hm
        · omega
        · have := h'.1 m hm; omega
/-- how many of the counts are above i -/
def partsOf (cs : List Int) (n : Nat) : List Int := (List.range n).map fun (i : Nat) => ((cs.filter fun c => decide ((i : Int) < c)).length : Int)
theorem cnt_low {K : Nat} {m : Int} (h0 : 0 ≤ m) (h1 : m ≤ K) : ((List.range K).filter fun (k : Nat) => decide ((k : Int) < m)).length = m.toNat := by
  induction K with
  | zero => simp; omega
  | succ K ih =>
    rw [List.range_succ, List.filter_append, List.length_append]
    by_cases c : m ≤ K
    · rw [ih c]
      simp
      omega
    · have e : ((List.range K).filter fun (k : Nat) => decide ((k : Int) < m)) = List.range K := List.filter_eq_self.mpr fun a ha => by
        have := List.mem_range.mp ha
        simp
        omega
      have c2 : (K : Int) < m := by omega
      rw [e, List.length_range]
      simp [c2]
      omega
/-- the parts are told by the counts -/
theorem parts_due {ls cs : List Int} (hd : ls.Pairwise (· ≥ ·)) (h1 : ∀ m ∈ ls, 1 ≤ m) (h : ∀ k : Nat, bx ls k = (cs.take k).sum) :
    partsOf cs ls.length = ls ∧ cs.length ≥ 0 ∧ (∀ c ∈ cs, c ≤ ls.length) ∧ (cs ≠ [] → cs.head? = some (ls.length : Int)) ∧ (cs = [] → ls = []) ∧ ls.sum = cs.sum := by
  have ck : ∀ k : Nat, k < cs.length → cs[k]? = some ((nGt ls k : Nat) : Int) := fun k hk => by
    have a := h k
    have b := h (k + 1)
    rw [show ((k + 1 : Nat) : Int) = (k : Int) + 1 by omega, bx_step, ← List.take_append_getElem hk, List.sum_append, List.sum_singleton] at b
    rw [List.getElem?_eq_getElem hk, Option.some.injEq]
    omega
  have cz : ∀ k : Nat, cs.length ≤ k → nGt ls k = 0 := fun k hk => by
    have a := h k
    have b := h (k + 1)
    rw [show ((k + 1 : Nat) : Int) = (k : Int) + 1 by omega, bx_step, List.take_of_length_le (by omega)] at b
    rw [List.take_of_length_le hk] at a
    omega
  have small : ∀ m ∈ ls, m ≤ cs.length := fun m hm => by
    have z := cz cs.length (Nat.le_refl _)
    unfold nGt at z
    rw [List.countP_eq_zero] at z
    have := z m hm
    simpa using this
  have n0 : nGt ls 0 = ls.length := by
    unfold nGt
    rw [List.countP_eq_length]
    intro m hm
    have := h1 m hm
    simp
    omega
  have csR : cs = (List.range cs.length).map fun (k : Nat) => ((nGt ls k : Nat) : Int) := by
    refine List.ext_getElem? fun k => ?_
    by_cases hk : k < cs.length
    · rw [ck k hk, List.getElem?_map, List.getElem?_range hk]
      rfl
    · rw [List.getElem?_eq_none (by omega), List.getElem?_eq_none (by simp; omega)]
  refine ⟨?_, Nat.zero_le _, fun c hc => ?_, fun hne => ?_, fun he => ?_, ?_⟩
  · refine List.ext_getElem? fun i => ?_
    unfold partsOf
    by_cases hi : i < ls.length
    · rw [List.getElem?_map, List.getElem?_range hi, List.getElem?_eq_getElem hi]
      simp only [Option.map_some, Option.some.injEq]
      have hm := List.getElem_mem hi
      have e : (cs.filter fun c => decide ((i : Int) < c)).length = ((List.range cs.length).filter fun (k : Nat) => decide ((k : Int) < ls[i])).length := by
        conv => lhs; rw [csR]
        rw [List.filter_map, List.length_map]
        congr 1
        refine List.filter_congr fun k hk => ?_
        have := nGt_iff (k := (k : Int)) (i := i) hd
        simp only [Function.comp]
        rw [List.getElem?_eq_getElem hi] at this
        have e2 : ((i : Int) < ((nGt ls (k : Int) : Nat) : Int)) ↔ (k : Int) < ls[i] := by
          rw [show ((i : Int) < ((nGt ls (k : Int) : Nat) : Int)) ↔ i < nGt ls k by omega, this]
          constructor
          · rintro ⟨m, e3, e4⟩
            cases e3
            exact e4
          · intro e3
            exact ⟨_, rfl, e3⟩
        exact decide_eq_decide.mpr e2
      rw [e, cnt_low (by have := h1 _ hm; omega) (small _ hm)]
      have := h1 _ hm
      omega
    · rw [List.getElem?_eq_none (by simp; omega), List.getElem?_eq_none (by omega)]
  · rw [csR] at hc
    obtain ⟨k, _, rfl⟩ := List.mem_map.mp hc
    have : nGt ls k ≤ ls.length := List.countP_le_length
    omega
  · cases cs with
    | nil => exact absurd rfl hne
    | cons c r =>
      have := ck 0 (by simp)
      rw [show ((0 : Nat) : Int) = 0 from rfl, n0] at this
      simpa using this
  · subst he
    have := cz 0 (by simp)
    rw [show ((0 : Nat) : Int) = 0 from rfl, n0] at this
    exact List.length_eq_zero_iff.mp this
  · have a := h cs.length
    rw [List.take_length] at a
    rw [← a]
    unfold bx
    congr 1
    have : ls.map (fun m => if m < (cs.length : Int) then m else (cs.length : Int)) = ls.map id := List.map_congr_left fun m hm => by
      have := small m hm
      show (if m < (cs.length : Int) then m else (cs.length : Int)) = m
      split <;> omega
    rw [this, List.map_id]
end DL
namespace DL
/-! ### high turnings, plain -/
def sz (w : List Int) : Int := w.length - 2 * w.sum
theorem sz_app (a b : List Int) : sz (a ++ b) = sz a + sz b := by unfold sz; rw [List.length_append, List.sum_append]; omega
theorem hi_iff : ∀ {w : List Int} {s : Int}, s ≤ 0 → (Hi s w ↔ ∀ a b, w = a ++ b → s ≤ sz a)
  | [], s, hs => by
    constructor
    · intro _ a b e
      have := List.append_eq_nil_iff.mp e.symm
      rw [this.1]
      simpa [sz] using hs
    · intro _; trivial
  | x :: w, s, hs => by
    constructor
    · rintro ⟨h1, h2⟩ a b e
      cases a with
      | nil => simpa [sz] using hs
      | cons y a =>
        have e1 : x = y := (List.cons.inj e).1
        have e2 := (List.cons.inj e).2
        have := (hi_iff h1).mp h2 a b e2
        subst e1
        unfold sz at *
        rw [List.length_cons, List.sum_cons]
        omega
    · intro h
      have h1 := h [x] w rfl
      have h1' : s + (2 * x - 1) ≤ 0 := by unfold sz at h1; simp at h1; omega
      refine ⟨h1', (hi_iff h1').mpr fun a b e => ?_⟩
      have := h (x :: a) b (by rw [e]; rfl)
      unfold sz at *
      rw [List.length_cons, List.sum_cons] at this
      omega
theorem hi_split : ∀ (n : Nat) (w : List Int), w.length = n → ∃ u v, w = u ++ v ∧ Hi 0 v ∧ ∀ a b, u = a ++ b → sz b ≤ 0
  | 0, w, h => by
    obtain rfl := List.length_eq_zero_iff.mp h
    refine ⟨[], [], rfl, trivial, fun a b e => ?_⟩
    have := List.append_eq_nil_iff.mp e.symm
    rw [this.2]
    simp [sz]
  | n + 1, w, h => by
    rcases List.eq_nil_or_concat w with rfl | ⟨w', x, rfl⟩
    · simp at h
    rw [List.concat_eq_append] at h ⊢
    obtain ⟨u, v, e, hv, hu⟩ := hi_split n w' (by simpa using h)
    have hvi := (hi_iff (Int.le_refl 0)).mp hv
    by_cases c : 0 ≤ sz (v ++ [x])
    · refine ⟨u, v ++ [x], by rw [e, List.append_assoc], (hi_iff (Int.le_refl 0)).mpr fun a b e2 => ?_, hu⟩
      rcases List.eq_nil_or_concat b with rfl | ⟨b', y, rfl⟩
      · rw [List.append_nil] at e2
        rw [← e2]
        exact c
      · rw [List.concat_eq_append, ← List.append_assoc] at e2
        have := List.append_inj_left' e2 rfl
        exact hvi a b' this
    · refine ⟨w' ++ [x], [], by simp, trivial, fun a b e2 => ?_⟩
      rcases List.eq_nil_or_concat b with rfl | ⟨b', y, rfl⟩
      · simp [sz]
      rw [List.concat_eq_append, ← List.append_assoc] at e2
      have e3 := List.append_inj_left' e2 rfl
      have e4 := List.append_inj_right' e2 rfl
      rw [List.concat_eq_append, ← e4]
      rw [e] at e3
      rcases List.append_eq_append_iff.mp e3 with ⟨t, t1, t2⟩ | ⟨t, t1, t2⟩
      · -- a = u ++ t, v = t ++ b'
        have p := hvi t b' t2
        rw [t2, List.append_assoc, sz_app] at c
        omega
      · -- u = a ++ t, b' = t ++ v
        have p := hu a t t1
        rw [t2, List.append_assoc, sz_app]
        omega
/-- some turning is high -/
theorem high_ex {w : List Int} (h : Ring w) : ∃ u v, w = u ++ v ∧ Hi 0 (v ++ u) ∧ u.length < w.length := by
  obtain ⟨u, v, e, hv, hu⟩ := hi_split w.length w rfl
  have hvi := (hi_iff (Int.le_refl 0)).mp hv
  have pos : 0 < sz w := by have := h.s; unfold sz; omega
  have main : Hi 0 (v ++ u) := (hi_iff (Int.le_refl 0)).mpr fun a b e2 => by
    rcases List.append_eq_append_iff.mp e2 with ⟨t, t1, t2⟩ | ⟨t, t1, t2⟩
    · -- a = v ++ t, u = t ++ b
      have p := hu t b t2
      rw [t1, sz_app]
      rw [e, t2, sz_app, sz_app] at pos
      omega
    · exact hvi a t t1
  by_cases c : v = []
  · subst c
    refine ⟨[], u, by rw [e]; simp, by simpa using main, by simpa using h.p⟩
  · refine ⟨u, v, e, main, ?_⟩
    have : 0 < v.length := List.length_pos_iff.mpr c
    rw [e, List.length_append]
    omega
def hiB : Int → List Int → Bool
  | _, [] => true
  | r, b :: w => if r + 1 - 2 * b < 0 then false else hiB (r + 1 - 2 * b) w
theorem hiB_iff : ∀ {w : List Int} {s : Int}, (hiB (-s) w = true ↔ Hi s w)
  | [], s => by simp [hiB, Hi]
  | b :: w, s => by
    unfold hiB Hi
    have ih := hiB_iff (w := w) (s := s + (2 * b - 1))
    rw [show -(s + (2 * b - 1)) = -s + 1 - 2 * b by omega] at ih
    by_cases c : -s + 1 - 2 * b < 0
    · rw [if_pos c]
      constructor
      · intro q; cases q
      · rintro ⟨q, _⟩; omega
    · rw [if_neg c, ih]
      constructor
      · intro q; exact ⟨by omega, q⟩
      · rintro ⟨_, q⟩; exact q
theorem hiB0 {w : List Int} : hiB 0 w = true ↔ Hi 0 w := by
  have := hiB_iff (w := w) (s := 0)
  simpa using this
theorem balls_idx : ∀ (w : List Int) (x : Int), ballsF x w = ((List.range w.length).filter fun k => decide (w.getD k 0 = 1)).map fun (k : Nat) => (x + (k : Int), (1 : Int))
  | [], x => rfl
  | b :: w, x => by
    have ih := balls_idx w (x + 1)
    rw [List.length_cons, List.range_succ_eq_map, List.filter_cons]
    have sh : ((List.range w.length).map Nat.succ).filter (fun k => decide ((b :: w).getD k 0 = 1)) = ((List.range w.length).filter fun k => decide (w.getD k 0 = 1)).map Nat.succ := by
      rw [List.filter_map]
      congr 1
    have mp : (((List.range w.length).filter fun k => decide (w.getD k 0 = 1)).map Nat.succ).map (fun (k : Nat) => (x + (k : Int), (1 : Int))) = ballsF (x + 1) w := by
      rw [ih, List.map_map]
      refine List.map_congr_left fun k _ => ?_
      simp only [Function.comp]
      congr 1
      omega
    show (if b = 1 then (x, (1 : Int)) :: ballsF (x + 1) w else ballsF (x + 1) w) = _
    by_cases c : b = 1
    · subst c
      rw [if_pos rfl, sh]
      simp only [List.getD_cons_zero, decide_true, if_true, List.map_cons, mp]
      simp
    · rw [if_neg c, sh]
      simp only [List.getD_cons_zero, c, decide_false, mp]
      simp
      rw [← mp]
      simp
theorem perm_sumI {a b : List Int} (h : a.Perm b) : a.sum = b.sum := by
  induction h with
  | nil => rfl
  | cons x _ ih => rw [List.sum_cons, List.sum_cons, ih]
  | swap x y l => simp only [List.sum_cons]; omega
  | trans _ _ h1 h2 => exact h1.trans h2
/-- the lengths of the strings of a high ring, descending -/
def lensOf (S : SL) : List Int := ((sortP S).map (·.1)).reverse
theorem lens_facts {w : List Int} {S : SL} (h : KI w S) (hw : Ring w) (hh : Hi 0 w) : (lensOf S).Pairwise (· ≥ ·) ∧ (∀ m ∈ lensOf S, 1 ≤ m) ∧ ∀ k : Nat, bx (lensOf S) k = En k w := by
  refine ⟨?_, fun m hm => ?_, fun k => ?_⟩
  · unfold lensOf
    rw [List.pairwise_reverse, List.pairwise_map]
    exact (sortP_sorted S).imp fun {a b} q => by
      unfold leP at q
      show b.1 ≥ a.1
      omega
  · unfold lensOf at hm
    obtain ⟨s, hs, rfl⟩ := List.mem_map.mp (List.mem_reverse.mp hm)
    exact (h.cr s ((sortP_perm S).mem_iff.mp hs)).1
  · rw [en_high (by omega) hw hh, ← h.q k (by omega)]
    unfold lensOf QS bx
    have p : ((sortP S).map (·.1)).reverse.Perm (S.map (·.1)) := (List.reverse_perm _).trans ((sortP_perm S).map _)
    exact perm_sumI (p.map _)
/-! what stays, by indexes -/
def ext3 (p : Int) (w : List Int) (nx : Int) (k : Nat) : Bool := gonP ((p :: (w ++ [nx])).getD k 0) ((p :: (w ++ [nx])).getD (k + 1) 0) ((p :: (w ++ [nx])).getD (k + 2) 0)
theorem kp_idx : ∀ (w : List Int) (p nx : Int), kp p w nx = ((List.range w.length).filter fun k => !ext3 p w nx k).map fun k => w.getD k 0
  | [], _, _ => rfl
  | b :: w, p, nx => by
    have ih := kp_idx w b nx
    have e0 : ext3 p (b :: w) nx 0 = gonP p b (hd w nx) := by
      unfold ext3
      cases w <;> rfl
    have es : ∀ k, ext3 p (b :: w) nx (k + 1) = ext3 b w nx k := fun k => rfl
    rw [show kp p (b :: w) nx = if gonP p b (hd w nx) = true then kp b w nx else b :: kp b w nx from rfl, List.length_cons, List.range_succ_eq_map, List.filter_cons, e0]
    have sh : (((List.range w.length).map Nat.succ).filter (fun k => !ext3 p (b :: w) nx k)).map (fun k => (b :: w).getD k 0) = kp b w nx := by
      rw [ih, List.filter_map, List.map_map]
      rfl
    by_cases c : gonP p b (hd w nx) = true
    · rw [if_pos c, if_neg (by simp [c]), sh]
    · rw [if_neg c, if_pos (by simpa using c), List.map_cons, sh]
      rfl
def gon2 (w : List Int) (nx : Int) (k : Nat) : Bool := decide ((w ++ [nx]).getD k 0 = 1 ∧ (w ++ [nx]).getD (k + 1) 0 = 0)
theorem dn_idx : ∀ (w : List Int) (nx : Int), dn w nx = (((List.range w.length).filter fun k => gon2 w nx k).length : Int)
  | [], _ => rfl
  | b :: w, nx => by
    have ih := dn_idx w nx
    have e0 : gon2 (b :: w) nx 0 = decide (b = 1 ∧ hd w nx = 0) := by
      unfold gon2
      cases w <;> rfl
    rw [show dn (b :: w) nx = (if b = 1 ∧ hd w nx = 0 then (1 : Int) else 0) + dn w nx from rfl, List.length_cons, List.range_succ_eq_map, List.filter_cons, e0]
    have sh : (((List.range w.length).map Nat.succ).filter (fun k => gon2 (b :: w) nx k)).length = ((List.range w.length).filter fun k => gon2 w nx k).length := by
      rw [List.filter_map, List.length_map]
      rfl
    by_cases c : b = 1 ∧ hd w nx = 0
    · rw [if_pos c, if_pos (by simp [c]), List.length_cons, sh, ih]
      omega
    · rw [if_neg c, if_neg (by simpa using c), sh, ih]
      omega
theorem lastL_get : ∀ {w : List Int} {p : Int}, w ≠ [] → lastL p w = w.getD (w.length - 1) 0
  | [], _, h => absurd rfl h
  | [b], _, _ => rfl
  | b :: c :: w, p, _ => by
    have := lastL_get (w := c :: w) (p := b) (by simp)
    show lastL b (c :: w) = _
    rw [this]
    simp
/-- the law's own gone boxes -/
def goneF (w : List Int) (k : Nat) : Bool := decide (w.getD k 0 = 1) && decide (w.getD ((k + 1) % w.length) 0 = 0)
theorem gon2_ring {w : List Int} (hp : 0 < w.length) {k : Nat} (hk : k < w.length) : gon2 w (hd w 0) k = goneF w k := by
  have h0 : hd w 0 = w.getD 0 0 := by cases w <;> rfl
  have a1 : (w ++ [hd w 0]).getD k 0 = w.getD k 0 := by
    rw [List.getD_eq_getElem?_getD, List.getElem?_append_left hk, ← List.getD_eq_getElem?_getD]
  have a2 : (w ++ [hd w 0]).getD (k + 1) 0 = w.getD ((k + 1) % w.length) 0 := by
    by_cases c : k + 1 < w.length
    · rw [Nat.mod_eq_of_lt c, List.getD_eq_getElem?_getD, List.getElem?_append_left c, ← List.getD_eq_getElem?_getD]
    · have e : k + 1 = w.length := by omega
      rw [e, Nat.mod_self, ← h0, List.getD_eq_getElem?_getD, List.getElem?_append_right (Nat.le_refl _), Nat.sub_self]
      rfl
  unfold gon2 goneF
  rw [a1, a2]
  simp
theorem ext3_ring {w : List Int} (hw : Bits w) (hp : 0 < w.length) {k : Nat} (hk : k < w.length) : ext3 (lastL 0 w) w (hd w 0) k = true ↔ goneF w k = true ∨ ∃ g < w.length, goneF w g = true ∧ (g + 1) % w.length = k := by
  have ne : w ≠ [] := List.length_pos_iff.mp hp
  have cur : (lastL 0 w :: (w ++ [hd w 0])).getD (k + 1) 0 = w.getD k 0 := by
    show (w ++ [hd w 0]).getD k 0 = _
    rw [List.getD_eq_getElem?_getD, List.getElem?_append_left hk, ← List.getD_eq_getElem?_getD]
  have g2 := gon2_ring hp hk
  have prv : (lastL 0 w :: (w ++ [hd w 0])).getD k 0 = w.getD ((k + w.length - 1) % w.length) 0 := by
    cases k with
    | zero =>
      show lastL 0 w = _
      rw [lastL_get ne, Nat.zero_add, Nat.mod_eq_of_lt (by omega)]
    | succ j =>
      show (w ++ [hd w 0]).getD j 0 = _
      rw [show j + 1 + w.length - 1 = j + w.length by omega, Nat.add_mod_right, Nat.mod_eq_of_lt (by omega), List.getD_eq_getElem?_getD, List.getElem?_append_left (by omega), ← List.getD_eq_getElem?_getD]
  have nxt : (lastL 0 w :: (w ++ [hd w 0])).getD (k + 2) 0 = (w ++ [hd w 0]).getD (k + 1) 0 := rfl
  have cur2 : (w ++ [hd w 0]).getD k 0 = w.getD k 0 := cur
  unfold ext3 gonP
  rw [cur, prv, nxt, decide_eq_true_eq]
  have one : goneF w k = true ↔ w.getD k 0 = 1 ∧ (w ++ [hd w 0]).getD (k + 1) 0 = 0 := by
    rw [← g2]
    unfold gon2
    rw [decide_eq_true_eq, cur2]
  rw [one]
  have pm : (k + w.length - 1) % w.length < w.length := Nat.mod_lt _ hp
  have back : ((k + w.length - 1) % w.length + 1) % w.length = k := by
    rw [Nat.mod_add_mod, show k + w.length - 1 + 1 = k + w.length by omega, Nat.add_mod_right, Nat.mod_eq_of_lt hk]
  constructor
  · rintro (q | ⟨q1, q2⟩)
    · exact .inl q
    · right
      refine ⟨_, pm, ?_, back⟩
      unfold goneF
      rw [back, q2, q1]
      rfl
  · rintro (q | ⟨g, gl, q1, q2⟩)
    · exact .inl q
    · right
      unfold goneF at q1
      rw [q2] at q1
      simp only [Bool.and_eq_true, decide_eq_true_eq] at q1
      have : g = (k + w.length - 1) % w.length := by
        rw [← q2]
        by_cases c : g + 1 < w.length
        · rw [Nat.mod_eq_of_lt c, show g + 1 + w.length - 1 = g + w.length by omega, Nat.add_mod_right, Nat.mod_eq_of_lt gl]
        · have e : g + 1 = w.length := by omega
          rw [e, Nat.mod_self, Nat.zero_add, Nat.mod_eq_of_lt (by omega)]
          omega
      rw [← this]
      exact ⟨q1.2, q1.1⟩
end DL
namespace DL
/-! ### riggings of a high ring are not negative; strings in any order -/
theorem lds_le {l : Int} : ∀ (w : List Int) (c : Int), Bits w → lds l w c ≤ w.sum
  | [], _, _ => Int.le_refl 0
  | b :: w, c, h => by
    have := lds_le (l := l) w (sC l b c) h.tl
    show pk l b c + lds l w (sC l b c) ≤ _
    rw [List.sum_cons]
    unfold pk
    rcases h.hd with rfl | rfl
    · simp; omega
    · split <;> omega
/-- what one ball makes: a longest string that is singular grows, or a new one begins -/
structure Step1 (S : SL) (x : Int) (T : SL) (m : Int) : Prop where
  m0 : 0 ≤ m
  q : ∀ k, 0 ≤ k → QS T k = QS S k + (if m < k then 1 else 0)
  perm : (m = 0 ∧ (∀ s ∈ S, sing S x s = false) ∧ T.Perm ((1, x + 1 - 2 * (QS S 1 + 1)) :: S)) ∨ (∃ R, S.Perm ((m, x - 2 * QS S m) :: R) ∧ (∀ s ∈ S, sing S x s = true → s.1 ≤ m) ∧ T.Perm ((m + 1, x + 1 - 2 * (QS S (m + 1) + 1)) :: R))
theorem QS_perm {S T : SL} (p : S.Perm T) (k : Int) : QS S k = QS T k := by
  unfold QS bx
  exact perm_sumI ((p.map _).map _)
theorem sing_perm {S T : SL} (p : S.Perm T) (x : Int) : sing S x = sing T x := by
  funext s
  unfold sing
  rw [QS_perm p]
theorem set_perm {α : Type} : ∀ {l : List α} {i : Nat} {y z : α}, l[i]? = some y → (l.set i z).Perm (z :: l.eraseIdx i) ∧ l.Perm (y :: l.eraseIdx i)
  | [], _, _, _, h => by simp at h
  | a :: r, 0, y, z, h => by
    simp at h
    subst h
    exact ⟨List.Perm.refl _, List.Perm.refl _⟩
  | a :: r, i + 1, y, z, h => by
    obtain ⟨p1, p2⟩ := set_perm (l := r) (i := i) (y := y) (z := z) (by simpa using h)
    exact ⟨(p1.cons a).trans (List.Perm.swap z a _), (p2.cons a).trans (List.Perm.swap y a _)⟩
/-- the steps of two orders of the same strings go together -/
theorem step_perm {S S' T T' : SL} {x m m' : Int} (p : S.Perm S') (h : Step1 S x T m) (h' : Step1 S' x T' m') (h1 : ∀ s ∈ S, 1 ≤ s.1) : T.Perm T' := by
  have sp := sing_perm p x
  have sgm : ∀ n : Int, sing S x (n, x - 2 * QS S n) = true := fun n => by unfold sing; simp
  have mem1 : ∀ {n : Int} {R : SL}, S.Perm ((n, x - 2 * QS S n) :: R) → (n, x - 2 * QS S n) ∈ S := fun q => q.mem_iff.mpr List.mem_cons_self
  have q' : ∀ k, QS S' k = QS S k := fun k => (QS_perm p k).symm
  rcases h.perm with ⟨e, no, t⟩ | ⟨R, r1, r2, t⟩ <;> rcases h'.perm with ⟨e', no', t'⟩ | ⟨R', r1', r2', t'⟩
  · rw [q'] at t'
    exact t.trans ((p.cons _).trans t'.symm)
  · exfalso
    rw [q'] at r1'
    have hm := p.mem_iff.mpr (r1'.mem_iff.mpr List.mem_cons_self)
    have := no _ hm
    rw [sgm] at this
    cases this
  · exfalso
    have hm := p.mem_iff.mp (mem1 r1)
    have := no' _ hm
    rw [← sp, sgm] at this
    cases this
  · rw [q'] at r1' t'
    have a := r2' _ (p.mem_iff.mp (mem1 r1)) (by rw [← sp]; exact sgm m)
    have b := r2 _ (p.mem_iff.mpr (r1'.mem_iff.mpr List.mem_cons_self)) (sgm m')
    have e : m = m' := by
      simp at a b
      omega
    subst e
    have pr : R.Perm R' := (r1.symm.trans (p.trans r1')).cons_inv
    exact t.trans ((pr.cons _).trans t'.symm)
theorem one1_step {S : SL} {x : Int} (h1 : ∀ s ∈ S, 1 ≤ s.1) : ∃ m, Step1 S x (one1 S x) m := by
  have mx := (bestGo_max (sing S x) S 0 none).1
  have pp := bestGo_p (sing S x) S S 0 none rfl (fun i l e => by cases e)
  cases hb : bestGo (sing S x) S 0 none with
  | none =>
    have no : ∀ s ∈ S, sing S x s = false := fun s hs => by
      cases q : sing S x s with
      | false => rfl
      | true =>
        obtain ⟨i, l, e1, _⟩ := mx s hs q
        rw [hb] at e1
        cases e1
    have e1 : one1 S x = S ++ [(1, x + 1 - 2 * (QS S 1 + 1))] := by unfold one1; rw [hb]
    refine ⟨0, Int.le_refl 0, fun k hk => ?_, .inl ⟨rfl, no, ?_⟩⟩
    · rw [e1, QS_snoc]
      split <;> split <;> omega
    · rw [e1]
      exact List.perm_append_comm
  | some q =>
    obtain ⟨i, l⟩ := q
    obtain ⟨j, ej, pj⟩ := pp i l hb
    have sj : (l, j) ∈ S := List.mem_of_getElem? ej
    have jv : j = x - 2 * QS S l := by simpa [sing] using pj
    have l1 := h1 _ sj
    have e1 : one1 S x = S.set i (l + 1, x + 1 - 2 * (QS S (l + 1) + 1)) := by unfold one1; rw [hb]
    refine ⟨l, by simp at l1; omega, fun k hk => ?_, .inr ⟨S.eraseIdx i, ?_, fun s hs sg => ?_, ?_⟩⟩
    · rw [e1, QS_set ej]
      split <;> split <;> omega
    · rw [← jv]
      exact (set_perm (z := (l, j)) ej).2
    · obtain ⟨i', l', e2, e3⟩ := mx s hs sg
      rw [hb] at e2
      cases e2
      exact e3
    · rw [e1]
      exact (set_perm ej).1
/-- riggings that are not negative -/
theorem jn_one {w : List Int} {S : SL} (hw : Bits w) (h : KI w S) (hj : ∀ s ∈ S, 0 ≤ s.2) (hh : 0 ≤ sz (w ++ [1])) : ∀ s ∈ one1 S w.length, 0 ≤ s.2 := fun s hs => by
  obtain ⟨m, st⟩ := one1_step (S := S) (x := w.length) fun s hs => (h.cr s hs).1
  have z : sz (w ++ [1]) = w.length + 1 - 2 * (w.sum + 1) := by unfold sz; simp
  have ql : ∀ k, 0 ≤ k → QS S k ≤ w.sum := fun k hk => by
    rw [h.q k hk]
    exact lds_le w 0 hw
  have m0 := st.m0
  rcases st.perm with ⟨e, no, t⟩ | ⟨R, r1, r2, t⟩
  · rcases List.mem_cons.mp (t.mem_iff.mp hs) with rfl | hs
    · have := ql 1 (by omega)
      show 0 ≤ (w.length : Int) + 1 - 2 * (QS S 1 + 1)
      omega
    · exact hj s hs
  · rcases List.mem_cons.mp (t.mem_iff.mp hs) with rfl | hs
    · have := ql (m + 1) (by omega)
      show 0 ≤ (w.length : Int) + 1 - 2 * (QS S (m + 1) + 1)
      omega
    · exact hj s (r1.mem_iff.mpr (List.mem_cons_of_mem _ hs))
/-- strings made in another order: a run -/
inductive Made : List Int → SL → Prop
  | nil : Made [] []
  | zero {w : List Int} {S : SL} : Made w S → Made (w ++ [0]) S
  | one {w : List Int} {S T : SL} {m : Int} : Made w S → Step1 S w.length T m → Made (w ++ [1]) T
theorem made_pos {w : List Int} {S : SL} (h : Made w S) : ∀ s ∈ S, 1 ≤ s.1 := by
  induction h with
  | nil => intro s hs; cases hs
  | zero _ ih => exact ih
  | one _ st ih =>
    intro s hs
    have m0 := st.m0
    rcases st.perm with ⟨e, no, t⟩ | ⟨R, r1, r2, t⟩
    · rcases List.mem_cons.mp (t.mem_iff.mp hs) with rfl | hs
      · show (1 : Int) ≤ 1; omega
      · exact ih s hs
    · rcases List.mem_cons.mp (t.mem_iff.mp hs) with rfl | hs
      · show (1 : Int) ≤ _ + 1; omega
      · exact ih s (r1.mem_iff.mpr (List.mem_cons_of_mem _ hs))
theorem made_uniq {w : List Int} {S : SL} (h : Made w S) : ∀ {T : SL}, Made w T → S.Perm T := by
  induction h with
  | nil =>
    intro T hT
    generalize hw : ([] : List Int) = w at hT
    cases hT with
    | nil => exact List.Perm.refl _
    | zero _ => simp at hw
    | one _ _ => simp at hw
  | @zero w S h0 ih =>
    intro T hT
    generalize hw : w ++ [0] = v at hT
    cases hT with
    | nil => simp at hw
    | zero h1 =>
      have := List.append_inj_left' hw rfl
      subst this
      exact ih h1
    | one h1 _ =>
      have := List.append_inj_right' hw rfl
      simp at this
  | @one w S T0 m h0 st ih =>
    intro T hT
    generalize hw : w ++ [1] = v at hT
    cases hT with
    | nil => simp at hw
    | zero h1 =>
      have := List.append_inj_right' hw rfl
      simp at this
    | one h1 st' =>
      have := List.append_inj_left' hw rfl
      subst this
      exact step_perm (ih h1) st st' (made_pos h0)
/-- the strings of the balls: as KI tells, made ball by ball -/
theorem ki_made : ∀ (v u : List Int) (S : SL) (tr : List (List Int)), Bits (u ++ v) → KI u S → Made u S → (∀ s ∈ S, 0 ≤ s.2) → (∀ a b, u ++ v = a ++ b → 0 ≤ sz a) → ∃ S' tr', listsG [S, [], []] tr (ballsF u.length v) = ([S', [], []], tr') ∧ KI (u ++ v) S' ∧ Made (u ++ v) S' ∧ ∀ s ∈ S', 0 ≤ s.2
  | [], u, S, tr, _, h, hm, hj, _ => ⟨S, tr, rfl, by rw [List.append_nil]; exact h, by rw [List.append_nil]; exact hm, hj⟩
  | b :: v, u, S, tr, hb, h, hm, hj, hh => by
    have el : ((u ++ [b]).length : Int) = u.length + 1 := by simp
    have hu : Bits u := fun x hx => hb x (List.mem_append_left _ hx)
    have bb := hb b (List.mem_append_right _ List.mem_cons_self)
    have hb' : Bits ((u ++ [b]) ++ v) := by rw [List.append_assoc]; exact hb
    have hh' : ∀ c d, (u ++ [b]) ++ v = c ++ d → 0 ≤ sz c := fun c d e => hh c d (by rw [← e, List.append_assoc]; rfl)
    rcases bb with rfl | rfl
    · obtain ⟨S', tr', e1, e2, e3, e4⟩ := ki_made v (u ++ [0]) S tr hb' (ki_zero h) (.zero hm) hj hh'
      rw [el] at e1
      exact ⟨S', tr', by show listsG _ _ (if (0 : Int) = 1 then _ else _) = _; rw [if_neg (by omega)]; exact e1, by simpa using e2, by simpa using e3, e4⟩
    · obtain ⟨m, st⟩ := one1_step (S := S) (x := u.length) fun s hs => (h.cr s hs).1
      have jn := jn_one hu h hj (hh (u ++ [1]) v (by simp))
      obtain ⟨S', tr', e1, e2, e3, e4⟩ := ki_made v (u ++ [1]) (one1 S u.length) (tr ++ [trc [S, [], []] (u.length, 1)]) hb' (ki_one h) (.one hm st) jn hh'
      rw [el] at e1
      refine ⟨S', tr', ?_, by simpa using e2, by simpa using e3, e4⟩
      show listsG _ _ (if (1 : Int) = 1 then ((u.length : Int), (1 : Int)) :: ballsF (u.length + 1) v else _) = _
      rw [if_pos rfl]
      show listsG (oneB [S, [], []] (u.length, 1)) _ _ = _
      rw [oneB1]
      exact e1
theorem ki_high {w : List Int} (h : Bits w) (hh : Hi 0 w) : ∃ S tr, listsOf (ballsF 0 w) = ([S, [], []], tr) ∧ KI w S ∧ Made w S ∧ ∀ s ∈ S, 0 ≤ s.2 := by
  obtain ⟨S, tr, e1, e2, e3, e4⟩ := ki_made w [] [] [] h ki_nil .nil (fun s hs => absurd hs List.not_mem_nil) ((hi_iff (Int.le_refl 0)).mp hh)
  exact ⟨S, tr, e1, by simpa using e2, by simpa using e3, e4⟩
end DL
namespace DL
open PySem L2
/-! ### rings, plain -/
theorem isint_ok (i : Int) (S : AH) : d_is_integer [.p (.int i)] S = .ok (.p (.bl true)) S := by
  simp [d_is_integer, b_is_integer_]
theorem ring_ok {w : List Int} (h : Ring w) (S : AH) : d_is_ring [.p (tupI w)] S = .ok (.p (.bl true)) S := by
  have hp := h.p
  have hm := h.m
  have hs := h.s
  have h1 : ¬ (w.length : Int) < 1 := by omega
  have h2 : ¬ (40 : Int) < w.length := by omega
  have k : (∀ (m : Int) (S : AH), mulO1 (.p (.int 2)) (.p (.int m)) S = some (.p (.int (2 * m)), S)) := fun m S => mulO1_int (mulOk_l (by decide))
  have hz : (dit (w.map PV.int)).length ≤ 16777216 := by rw [dit_len, List.length_map]; omega
  simp [d_is_ring, b_is_ring_, h1, h2, ev_kLc hz]
  rw [lc_map trivial (fun _ => .bl true) (fun x hx => by
    obtain ⟨i, hi, rfl⟩ := List.mem_map.mp hx
    refine ⟨_, rfl, ?_⟩
    rcases h.b i hi with rfl | rfl <;> simp [isint_ok, wipeD])]
  have al : ∀ S : AH, allO [.p (.lst ((w.map PV.int).map (fun _ => PV.bl true)))] S = some (.p (.bl true), S) := fun S => by
    have e : (w.map PV.int).map (fun _ => PV.bl true) = (w.map fun _ => true).map PV.bl := by simp
    rw [e, allO_lst]
    simp
  simp [-List.map_map, al, sumO_tup, k, hs, h1, h2]
theorem chk_ok {w : List Int} (h : Ring w) (S : AH) : d_check_ring [.p (tupI w)] S = .ok (.p .non) S := by
  simp [d_check_ring, b_check_ring_, ring_ok h]
/-- turned by a way -/
def trn (d : Int) (w : List Int) : List Int := w.drop (d % w.length).toNat ++ w.take (d % w.length).toNat
theorem turned_ok {w : List Int} (h : Ring w) (d : Int) (S : AH) : d_turned_ring [.p (tupI w), .p (.int d)] S = .ok (.p (tupI (trn d w))) S := by
  have hp := h.p
  have hm := h.m
  have mm : ∀ (i : Int) (S : AH), modO (.p (.int i)) (.p (.int w.length)) S = some (.p (.int (i % w.length)), S) := fun i S => modO_int (by omega)
  have b0 := Int.emod_nonneg d (show (w.length : Int) ≠ 0 by omega)
  have b1 := Int.emod_lt_of_pos d (show (0 : Int) < w.length by omega)
  obtain ⟨k, hk⟩ : ∃ k : Nat, d % w.length = (k : Int) := ⟨(d % w.length).toNat, by omega⟩
  have e1 : cutL (w.map PV.int) (some (k : Int)) none = (w.drop k).map PV.int := by rw [cutL_map, cut_from]
  have e2 : cutL (w.map PV.int) none (some (k : Int)) = (w.take k).map PV.int := by rw [cutL_map, cut_to]
  have ad : ∀ S : AH, addO (.p (.tup ((w.drop k).map PV.int))) (.p (.tup ((w.take k).map PV.int))) S = some (.p (tupI (trn d w)), S) := fun S => by
    rw [addO_tup (by simp; omega)]
    unfold trn tupI
    rw [hk, List.map_append]
    rfl
  simp only [tupI] at ad
  have c := chk_ok h
  simp only [tupI] at c ⊢
  simp [d_turned_ring, b_turned_ring_, c, mm, hk, e1, e2, ad, -List.map_drop, -List.map_take]
theorem trn_len {d : Int} {w : List Int} (hp : 0 < w.length) : (trn d w).length = w.length := by
  unfold trn; simp; have := Int.emod_lt_of_pos d (show (0 : Int) < w.length by omega); omega
theorem trn_get {w : List Int} (hp : 0 < w.length) (d : Int) : ∀ k < w.length, w[(((k : Int) + d) % w.length).toNat]? = (trn d w)[k]? := fun k hk => by
  have b0 := Int.emod_nonneg d (show (w.length : Int) ≠ 0 by omega)
  have b1 := Int.emod_lt_of_pos d (show (0 : Int) < w.length by omega)
  have q : ((k : Int) + d) % w.length = if (k : Int) + d % w.length < w.length then (k : Int) + d % w.length else (k : Int) + d % w.length - w.length := by
    rw [Int.add_emod, Int.emod_eq_of_lt (a := (k : Int)) (by omega) (by omega)]
    split
    · exact Int.emod_eq_of_lt (by omega) (by omega)
    · rw [← Int.sub_emod_right]; exact Int.emod_eq_of_lt (by omega) (by omega)
  unfold trn
  rw [q, List.getElem?_append, List.length_drop]
  split
  · rw [if_pos (by omega), List.getElem?_drop]
    congr 1; omega
  · rw [if_neg (by omega), List.getElem?_take_of_lt (by omega)]
    congr 1; omega
theorem map_getD {α : Type} (f : Int → α) (v : List Int) : (List.range v.length).map (fun k => f (v.getD k 0)) = v.map f := by
  refine List.ext_getElem (by simp) fun i h1 h2 => ?_
  simp at h1 h2
  simp [h2]
theorem lturned_ok {w : List Int} (hp : 0 < w.length) (hm : w.length ≤ 1000) (d : Int) (S : AH) : d_law_turned [.p (tupI w), .p (.int d)] S = .ok (.p (tupI (trn d w))) S := by
  have mm : ∀ (i : Int) (S : AH), modO (.p (.int i)) (.p (.int w.length)) S = some (.p (.int (i % w.length)), S) := fun i S => modO_int (by omega)
  have hz : (rangeI 0 w.length).length ≤ 16777216 := by rw [rangeI_len]; omega
  have tl := trn_len (d := d) hp
  have ia : ∀ (k : Nat) (hk : k < w.length) (S : AH), ixO (.p (.tup (w.map PV.int))) (.p (.int (((k : Int) + d) % w.length))) S = some (.p (.int ((trn d w).getD k 0)), S) := fun k hk S => by
    have hk' : k < (trn d w).length := by omega
    have e := trn_get hp d k hk
    rw [List.getElem?_eq_getElem hk'] at e
    refine ixO_tup (atI_map _ (atI_at (Int.emod_nonneg _ (by omega)) ?_))
    rw [e, List.getD_eq_getElem?_getD, List.getElem?_eq_getElem hk']; rfl
  simp [d_law_turned, b_law_turned_, rg_len w.length (by omega), ev_kLc hz]
  rw [lc_rmap (fun k => .int ((trn d w).getD k 0)) (fun k hk => by simp [wipeD, mm, ia k hk])]
  rw [← tl, map_getD PV.int]
  simp
theorem plain_int (n : Nat) (i : Int) (S : AH) : d_law_plain (n + 1) [.p (.int i)] S = .ok (.p (.int i)) S := by
  simp [d_law_plain]
theorem plain_tup0 (n : Nat) {w : List Int} (z : w.length ≤ 1000) (S : AH) : d_law_plain (n + 2) [.p (tupI w)] S = .ok (.p (tupI w)) S := by
  have hz : (dit (w.map PV.int)).length ≤ 16777216 := by rw [dit_len, List.length_map]; omega
  have pi := fun i S => plain_int n i S
  rw [d_law_plain]
  generalize d_law_plain (n + 1) = F at *
  simp [ev_kLc hz]
  rw [lc_map trivial id (fun x hx => by
    obtain ⟨i, hi, rfl⟩ := List.mem_map.mp hx
    refine ⟨_, rfl, ?_⟩
    simp [pi, wipeD])]
  simp
theorem plain_tup {w : List Int} (z : w.length ≤ 1000) (S : AH) : d_law_plain 8 [.p (tupI w)] S = .ok (.p (tupI w)) S := plain_tup0 6 z S
end DL
namespace DL
open PySem L2
/-- a letter that is read -/
theorem let_get {w : List Int} {k : Nat} (h : k < w.length) (c : Cell) (S : AH) : ixO (.c 1) (.p (.int (k : Int))) [c, .lst (w.map PV.int)] = some (.p (.int (w.getD k 0)), [c, .lst (w.map PV.int)]) := by
  refine ixO_c rfl (atI_map _ (atI_nat ?_))
  rw [List.getD_eq_getElem?_getD, List.getElem?_eq_getElem h]; rfl
theorem bits_zero : ∀ {w : List Int}, Bits w → w.sum < w.length → ∃ k, k < w.length ∧ w.getD k 0 = 0
  | [], _, h => by simp at h
  | b :: w, hw, h => by
    rcases hw.hd with rfl | rfl
    · exact ⟨0, by simp, rfl⟩
    · obtain ⟨k, h1, h2⟩ := bits_zero hw.tl (by simp only [List.sum_cons, List.length_cons] at h; omega)
      exact ⟨k + 1, by simpa using h1, by simpa using h2⟩
theorem set_sum : ∀ {w : List Int} {k : Nat}, k < w.length → w.getD k 0 = 0 → (w.set k 1).sum = w.sum + 1
  | [], k, h, _ => by simp at h
  | b :: w, 0, _, e => by
    have : b = 0 := e
    subst this
    simp [Int.add_comm]
  | b :: w, k + 1, h, e => by
    have := set_sum (w := w) (k := k) (by simpa using h) (by simpa using e)
    simp only [List.set_cons_succ, List.sum_cons, this]
    omega
theorem set_bits {w : List Int} (h : Bits w) (k : Nat) : Bits (w.set k 1) := fun b hb => by
  rcases List.mem_or_eq_of_mem_set hb with q | q
  · exact h b q
  · exact .inr q
/-- the state between two turns of the draw -/
def Turn (n m : Nat) (xs : List DV) (δ : Sig) (S : AH) : Prop := ∃ (j : Nat) (lo : Int) (w : List Int) (last : Int) (c : Cell) (x4 x6 x7 x8 x9 : Option DV),
  xs = rangeI lo j ∧ δ = [some (.c 0), some (.p (.int 40)), some (.p (.int n)), some (.c 1), x4, some (.p (.int last)), x6, x7, x8, x9] ∧ S = [c, .lst (w.map PV.int)] ∧ St2 c ∧ Bits w ∧ w.length = n ∧ w.sum + j = m ∧ -1 ≤ last ∧ last < n
theorem turn_step {n m : Nat} (hn : n ≤ 40) (hm : 2 * m < n) (x : DV) (xs : List DV) (δ : Sig) (S : AH) (h : Turn n m (x :: xs) δ S) : ∃ δ1, (Pat.nm 6).set x δ = some δ1 ∧ ∃ δ2 S2, L0_law_ring δ1 S = .nx δ2 S2 ∧ Turn n m xs δ2 S2 := by
  obtain ⟨j, lo, w, last, c, x4, x6, x7, x8, x9, e1, rfl, rfl, hc, hw, hl, hs, h1, h2⟩ := h
  cases j with
  | zero => rw [range0] at e1; cases e1
  | succ j =>
  rw [range_succ] at e1
  cases e1
  refine ⟨_, rfl, ?_⟩
  have np : 0 < n := by omega
  have rg : ∀ S : AH, kRng1 [.p (.int (n : Int))] S = .ok (rangeI 0 n, ckT) S := rg_len n (by omega)
  have hz : (rangeI 0 n).length ≤ 16777216 := by rw [rangeI_len]; omega
  have mm : ∀ (i : Int) (S : AH), modO (.p (.int i)) (.p (.int n)) S = some (.p (.int (i % n)), S) := fun i S => modO_int (by omega)
  have lg := fun (k : Nat) (hk : k < n) (c : Cell) => let_get (w := w) (k := k) (by omega) c []
  obtain ⟨k0, hk0, hk1⟩ := bits_zero hw (by omega)
  rw [hl] at hk0
  -- free
  obtain ⟨free, hf⟩ : ∃ free : List Nat, free = (List.range n).filter fun k => decide (w.getD k 0 = 0) := ⟨_, rfl⟩
  have fm : ∀ k, k ∈ free ↔ k < n ∧ w.getD k 0 = 0 := fun k => by rw [hf]; simp
  have f0 : 0 < free.length := List.length_pos_of_mem ((fm k0).mpr ⟨hk0, hk1⟩)
  have f1 : free.length ≤ 40 := by
    have := List.length_filter_le (fun k => decide (w.getD k 0 = 0)) (List.range n)
    rw [← hf, List.length_range] at this
    omega
  obtain ⟨v, c1, hc1, hv, tk⟩ := take_ok hc (m := free.length) [.lst (w.map PV.int)] (by omega) (by omega)
  obtain ⟨u, c2, hc2, hu, tk2⟩ := take_ok hc1 (m := 5) [.lst (w.map PV.int)] (by omega) (by omega)
  -- behind
  obtain ⟨beh, hb⟩ : ∃ beh : List Nat, beh = (List.range n).filter fun (k : Nat) => decide (w.getD ((last + 1 + (k : Int)) % n).toNat 0 = 0) := ⟨_, rfl⟩
  have b0 : 0 < beh.length := by
    refine List.length_pos_of_mem (a := (((k0 : Int) - last - 1) % n).toNat) ?_
    rw [hb, List.mem_filter]
    have q0 := Int.emod_nonneg ((k0 : Int) - last - 1) (show (n : Int) ≠ 0 by omega)
    have q1 := Int.emod_lt_of_pos ((k0 : Int) - last - 1) (show (0 : Int) < n by omega)
    refine ⟨List.mem_range.mpr (by omega), ?_⟩
    rw [Int.toNat_of_nonneg q0]
    have : (last + 1 + ((k0 : Int) - last - 1) % n) % n = k0 := by
      rw [Int.add_emod_emod, show last + 1 + ((k0 : Int) - last - 1) = k0 by omega]
      exact Int.emod_eq_of_lt (by omega) (by omega)
    rw [this]
    simpa using hk1
  -- the free place that is drawn
  obtain ⟨at1, ha⟩ : ∃ at1, free[v.toNat]? = some at1 := ⟨_, List.getElem?_eq_getElem (by omega)⟩
  have ha1 := (fm at1).mp (List.mem_of_getElem? ha)
  obtain ⟨b1, hb1⟩ : ∃ b1, beh[0]? = some b1 := ⟨_, List.getElem?_eq_getElem b0⟩
  have hb2 : w.getD ((last + 1 + (b1 : Int)) % n).toNat 0 = 0 := by
    have := List.mem_of_getElem? hb1
    rw [hb, List.mem_filter] at this
    simpa using this.2
  have ia : ∀ S : AH, ixO (.p (.lst (free.map fun (k : Nat) => PV.int (k : Int)))) (.p (.int v)) S = some (.p (.int at1), S) := fun S => ixO_lst (atI_map (fun (k : Nat) => PV.int (k : Int)) (atI_at hv.1 ha))
  have ib : ∀ S : AH, ixO (.p (.lst (beh.map fun (k : Nat) => PV.int ((last + 1 + (k : Int)) % n)))) (.p (.int 0)) S = some (.p (.int ((last + 1 + (b1 : Int)) % n)), S) := fun S => ixO_lst (atI_map (fun (k : Nat) => PV.int ((last + 1 + (k : Int)) % n)) (atI_at (by decide) hb1))
  have se : ∀ (δ : Sig) (k : Nat) (c : Cell), k < n → jSub3 (.c 1) (.p (.int 1)) (.p (.int k)) δ [c, .lst (w.map PV.int)] = .nx δ [c, .lst ((w.set k 1).map PV.int)] := fun δ k c hk => by
    refine ev_jSub3 ?_
    rw [setIx_c (n := 1) rfl (show k < (w.map PV.int).length by rw [List.length_map]; omega), List.map_set]
    rfl
  simp [L0_law_ring, rg, ev_kLc hz]
  rw [lc_rfilter (fun k => decide (w.getD k 0 = 0)) (fun k => .int (k : Int)) (fun k hk => by simp [wipeD, lg k hk]) (fun k hk _ => by simp [wipeD])]
  rw [← hf]
  simp [tk, ia, rg, ev_kLc hz]
  have lg2 : ∀ (k : Nat) (c : Cell), ixO (.c 1) (.p (.int ((last + 1 + (k : Int)) % n))) [c, .lst (w.map PV.int)] = some (.p (.int (w.getD ((last + 1 + (k : Int)) % n).toNat 0)), [c, .lst (w.map PV.int)]) := fun k c => by
    have q0 := Int.emod_nonneg (last + 1 + (k : Int)) (show (n : Int) ≠ 0 by omega)
    have q1 := Int.emod_lt_of_pos (last + 1 + (k : Int)) (show (0 : Int) < n by omega)
    have := lg ((last + 1 + (k : Int)) % n).toNat (by omega) c
    rwa [Int.toNat_of_nonneg q0] at this
  rw [lc_rfilter (fun k => decide (w.getD ((last + 1 + (k : Int)) % n).toNat 0 = 0)) (fun k => .int ((last + 1 + (k : Int)) % n)) (fun k hk => by simp [wipeD, mm, lg2]) (fun k hk _ => by simp [wipeD, mm])]
  rw [← hb]
  have fini : ∀ (a : Nat) (c : Cell) (x7 x8 x9 : Option DV), St2 c → a < n → w.getD a 0 = 0 → Turn n m (rangeI (lo + 1) j) [some (.c 0), some (.p (.int 40)), some (.p (.int n)), some (.c 1), x4, some (.p (.int a)), some (.p (.int lo)), x7, x8, x9] [c, .lst ((w.map PV.int).set a (.int 1))] := fun a c x7 x8 x9 hc ha hz =>
    ⟨j, lo + 1, w.set a 1, a, c, x4, some (.p (.int lo)), x7, x8, x9, rfl, rfl, by rw [List.map_set], hc, set_bits hw a, by rw [List.length_set, hl], by rw [set_sum (by omega) hz]; omega, by omega, by omega⟩
  have q0 := Int.emod_nonneg (last + 1 + (b1 : Int)) (show (n : Int) ≠ 0 by omega)
  have q1 := Int.emod_lt_of_pos (last + 1 + (b1 : Int)) (show (0 : Int) < n by omega)
  by_cases g1 : 0 ≤ last
  · by_cases g2 : u < 3
    · obtain ⟨b2, hb3⟩ : ∃ b2 : Nat, (last + 1 + (b1 : Int)) % n = (b2 : Int) := ⟨_, (Int.toNat_of_nonneg q0).symm⟩
      rw [hb3] at ib hb2
      simp [g1, tk2, g2, ib, fun δ c => se δ b2 c (show b2 < n by omega)]
      exact ⟨_, _, ⟨rfl, rfl⟩, fini b2 _ _ _ _ hc2 (by omega) hb2⟩
    · simp [g1, tk2, g2, fun δ c => se δ at1 c ha1.1]
      exact ⟨_, _, ⟨rfl, rfl⟩, fini at1 _ _ _ _ hc2 ha1.1 ha1.2⟩
  · simp [g1, fun δ c => se δ at1 c ha1.1]
    exact ⟨_, _, ⟨rfl, rfl⟩, fini at1 _ _ _ _ hc1 ha1.1 ha1.2⟩
theorem zeros (n : Nat) : (List.range n).map (fun _ => PV.int 0) = (List.replicate n (0 : Int)).map PV.int := by
  rw [List.map_replicate, List.map_const', List.length_range]
theorem lring_ok {c : Cell} (hc : St2 c) : ∃ w c', St2 c' ∧ Ring w ∧ d_law_ring [.c 0, .p (.int 40)] [c] = .ok (.p (tupI w)) [c'] := by
  obtain ⟨v, c1, hc1, hv, tk⟩ := take_ok hc (m := 40) [] (by omega) (by omega)
  obtain ⟨n, hn⟩ : ∃ n : Nat, 1 + v = (n : Int) := ⟨(1 + v).toNat, by omega⟩
  have d2 : ∀ (i : Int) (S : AH), divO (.p (.int i)) (.p (.int 2)) S = some (.p (.int (i / 2)), S) := fun i S => divO_int (divOk_of (by decide) (by decide))
  obtain ⟨u, c2, hc2, hu, tk2⟩ := take_ok hc1 (m := ((n : Int) + 1) / 2) [.lst ((List.replicate n (0 : Int)).map PV.int)] (by omega) (by omega)
  obtain ⟨m, hm⟩ : ∃ m : Nat, u = (m : Int) := ⟨u.toNat, by omega⟩
  subst hm
  have hz : (rangeI 0 n).length ≤ 16777216 := by rw [rangeI_len]; omega
  obtain ⟨δ', S', e, j, lo, w, last, c3, x4, x6, x7, x8, x9, e1, rfl, rfl, hc3, hw, hl, hs, h1, h2⟩ := for_rule (fb := L0_law_ring) (q := .nm 6) (Turn n m) (xs := rangeI 0 m) (δ := [some (.c 0), some (.p (.int 40)), some (.p (.int n)), some (.c 1), none, some (.p (.int (-1))), none, none, none, none]) (S := [c2, .lst ((List.replicate n (0 : Int)).map PV.int)])
    ⟨m, 0, List.replicate n 0, -1, c2, _, _, _, _, _, rfl, rfl, rfl, hc2, fun b hb => .inl (List.eq_of_mem_replicate hb), by simp, by simp, by omega, by omega⟩
    (fun x xs δ S h => turn_step (by omega) (by omega) x xs δ S h)
  cases j with
  | succ j => rw [range_succ] at e1; cases e1
  | zero =>
  obtain ⟨y3, z3, rfl⟩ := hc3
  refine ⟨w, _, ⟨y3, z3, rfl⟩, ⟨hw, by omega, by omega, by omega⟩, ?_⟩
  obtain ⟨y0, z0, rfl⟩ := hc
  simp [d_law_ring, b_law_ring_, tk, hn, rg_len n (by omega), ev_kLc hz]
  rw [lc_rmap (fun _ => .int 0) (fun k hk => by simp [wipeD]), zeros]
  simp [d2, tk2, kRng1_ok (small62_of (show -(2 ^ 62) < (m : Int) ∧ (m : Int) < 2 ^ 62 by omega)), e, tupleO_c (n := 1) (S := [.lst [.int y3, .int z3], .lst (w.map PV.int)]) rfl, -List.map_replicate]
end DL
namespace DL
open PySem L2
/-! ### is_high, least_turn, shape_of_ring, walked -/
theorem ih_loop (W : Option DV) (S : AH) : ∀ (w : List Int) (r : Int) (x : Option DV), Bits w → (hiB r w = true ∧ ∃ r' x', forGo ckT (.nm 2) L0_is_high (dit (w.map PV.int)) [W, some (.p (.int r)), x] S = .nx [W, r', x'] S) ∨ (hiB r w = false ∧ forGo ckT (.nm 2) L0_is_high (dit (w.map PV.int)) [W, some (.p (.int r)), x] S = .rt (.p (.bl false)) S)
  | [], r, x, _ => .inl ⟨rfl, _, _, for_nil⟩
  | b :: w, r, x, hw => by
    have m2 : ∀ (i : Int) (S : AH), mulO1 (.p (.int 2)) (.p (.int i)) S = some (.p (.int (2 * i)), S) := fun i S => mulO1_int (mulOk_l (by decide))
    rw [List.map_cons, dit_cons, for_nm]
    by_cases c : r + 1 - 2 * b < 0
    · right
      refine ⟨by unfold hiB; rw [if_pos c], ?_⟩
      have st : L0_is_high ([W, some (.p (.int r)), x].set 2 (some (.p (.int b)))) S = .rt (.p (.bl false)) S := by simp [L0_is_high, m2, c]
      rw [st]
      rfl
    · have st : L0_is_high ([W, some (.p (.int r)), x].set 2 (some (.p (.int b)))) S = .nx [W, some (.p (.int (r + 1 - 2 * b))), some (.p (.int b))] S := by simp [L0_is_high, m2, c]
      have eh : hiB r (b :: w) = hiB (r + 1 - 2 * b) w := by
        show (if _ then _ else _) = _
        rw [if_neg c]
      rw [st, after_nx, eh]
      exact ih_loop W S w (r + 1 - 2 * b) _ hw.tl
theorem ishigh_ok {w : List Int} (h : Ring w) (S : AH) : d_is_high [.p (tupI w)] S = .ok (.p (.bl (hiB 0 w))) S := by
  have c := chk_ok h
  simp only [tupI] at c ⊢
  rcases ih_loop (some (.p (.tup (w.map PV.int)))) S w 0 none h.b with ⟨e, r', x', lo⟩ | ⟨e, lo⟩
  · rw [e]
    generalize w.map PV.int = V at *
    simp [d_is_high, b_is_high_, c, lo]
  · rw [e]
    generalize w.map PV.int = V at *
    simp [d_is_high, b_is_high_, c, lo]
theorem trn_ringW {w : List Int} (h : Ring w) (d : Int) : Ring (trn d w) := by
  unfold trn
  refine Ring.rot ?_
  rw [List.take_append_drop]
  exact h
theorem trn_en {l : Int} {w : List Int} (hl : 0 ≤ l) (h : Ring w) (d : Int) : En l (trn d w) = En l w := by
  unfold trn
  rw [en_rot hl (by rw [List.take_append_drop]; exact h), List.take_append_drop]
theorem trn_split {u v : List Int} (hv : 0 < v.length) : trn u.length (u ++ v) = v ++ u := by
  unfold trn
  have e : ((u.length : Int) % ((u ++ v).length : Int)).toNat = u.length := by
    rw [Int.emod_eq_of_lt (by omega) (by rw [List.length_append]; omega)]
    exact Int.toNat_natCast _
  rw [e, List.drop_left, List.take_left]
theorem turn_high {w : List Int} (h : Ring w) : ∃ d : Nat, d < w.length ∧ hiB 0 (trn d w) = true := by
  obtain ⟨u, v, e, hh, hl⟩ := high_ex h
  refine ⟨u.length, hl, ?_⟩
  have : 0 < v.length := by rw [e, List.length_append] at hl; omega
  rw [e, trn_split this]
  exact hiB0.mpr hh
theorem lt_loop {w : List Int} (h : Ring w) (S : AH) {D : Nat} (hD : hiB 0 (trn D w) = true) : ∀ (m d : Nat), d + m = D → ∃ d' : Nat, hiB 0 (trn d' w) = true ∧ d' ≤ D ∧
    dWhile (dNot (dTru (dCall d_is_high (dCons (dCall d_turned_ring (dCons (dVar 0) (dCons (dVar 1) dNil))) dNil)))) L0_least_turn [some (.p (tupI w)), some (.p (.int (d : Int)))] S = .nx [some (.p (tupI w)), some (.p (.int (d' : Int)))] S := by
  intro m
  induction m with
  | zero =>
    intro d e
    have e : d = D := by omega
    subst e
    refine ⟨d, hD, Nat.le_refl _, ?_⟩
    have t := turned_ok h d
    have i := ishigh_ok (trn_ringW h d)
    rw [hD] at i
    generalize tupI (trn d w) = V at *
    generalize tupI w = W at *
    rw [dWhile_eq, show (dNot (dTru (dCall d_is_high (dCons (dCall d_turned_ring (dCons (dVar 0) (dCons (dVar 1) dNil))) dNil)))) [some (.p W), some (.p (.int (d : Int)))] S = .ok false S by simp [t, i], out_ok, if_neg Bool.false_ne_true]
  | succ m ih =>
    intro d e
    have t := turned_ok h d
    have i := ishigh_ok (trn_ringW h d)
    cases q : hiB 0 (trn d w) with
    | true =>
      refine ⟨d, q, by omega, ?_⟩
      rw [q] at i
      generalize tupI (trn d w) = V at *
      generalize tupI w = W at *
      rw [dWhile_eq, show (dNot (dTru (dCall d_is_high (dCons (dCall d_turned_ring (dCons (dVar 0) (dCons (dVar 1) dNil))) dNil)))) [some (.p W), some (.p (.int (d : Int)))] S = .ok false S by simp [t, i], out_ok, if_neg Bool.false_ne_true]
    | false =>
      obtain ⟨d', h1, h2, h3⟩ := ih (d + 1) (by omega)
      refine ⟨d', h1, h2, ?_⟩
      rw [q] at i
      rw [show ((d + 1 : Nat) : Int) = (d : Int) + 1 by omega] at h3
      generalize tupI (trn d w) = V at *
      generalize tupI w = W at *
      rw [dWhile_eq, show (dNot (dTru (dCall d_is_high (dCons (dCall d_turned_ring (dCons (dVar 0) (dCons (dVar 1) dNil))) dNil)))) [some (.p W), some (.p (.int (d : Int)))] S = .ok true S by simp [t, i], out_ok, if_pos rfl, show L0_least_turn [some (.p W), some (.p (.int (d : Int)))] S = .nx [some (.p W), some (.p (.int ((d : Int) + 1)))] S by simp [L0_least_turn]]
      exact h3
theorem least_ok {w : List Int} (h : Ring w) (S : AH) : ∃ d : Nat, hiB 0 (trn d w) = true ∧ d < w.length ∧ d_least_turn [.p (tupI w)] S = .ok (.p (.int (d : Int))) S := by
  obtain ⟨D, hl, hD⟩ := turn_high h
  obtain ⟨d, h1, h2, h3⟩ := lt_loop h S hD D 0 (by omega)
  refine ⟨d, h1, by omega, ?_⟩
  have h3 : dWhile _ _ [some (.p (tupI w)), some (.p (.int 0))] S = _ := h3
  generalize tupI w = W at *
  simp [d_least_turn, b_least_turn_, h3]
theorem hs_all {w : List Int} (h : Ring w) {d : Int} (hh : hiB 0 (trn d w) = true) : ∃ L : SL, (KI (trn d w) L ∧ Made (trn d w) L ∧ ∀ s ∈ L, 0 ≤ s.2) ∧ ∀ S, d_high_strings [.p (tupI w), .p (.int d)] S = .ok (.p (.tup ((sortP L).map pairP))) S := by
  have hr := trn_ringW h d
  obtain ⟨L, tr, e, ki⟩ := ki_high hr.b (hiB0.mp hh)
  refine ⟨L, ki, fun S => ?_⟩
  clear hh
  have t := turned_ok h d
  generalize trn d w = v at *
  have vm := hr.m
  have rg := rg_len v.length (by omega)
  have hz : (rangeI 0 v.length).length ≤ 16777216 := by rw [rangeI_len]; omega
  have ix : ∀ k, k < v.length → ∀ S, ixO (.p (.tup (v.map PV.int))) (.p (.int (k : Int))) S = some (.p (.int (v.getD k 0)), S) := fun k hk S => ixO_tup (atI_at (by omega) (by
    rw [Int.toNat_natCast, List.getElem?_map, List.getElem?_eq_getElem hk]
    simp [List.getD, hk]))
  have lc : lcGo ckT (.nm 3) (blOf (dBin eqO (dBin ixO (dVar 2) (dVar 3)) (dC (.int 1)))) (dTup (dCons (dVar 3) (dCons (dC (.int 1)) dNil))) [some (.p (tupI w)), some (.p (.int d)), some (.p (.tup (v.map PV.int))), none] (rangeI 0 v.length) S = .ok ((ballsF 0 v).map pairP) S := by
    rw [lc_rfilter (fun k => decide (v.getD k 0 = 1)) (fun k => .tup [.int (k : Int), .int 1]) (fun k hk => by
      have := ix k hk
      generalize v.getD k 0 = y at *
      simp [this]) (fun k hk _ => by simp), balls_idx, List.map_map]
    simp [pairP, Function.comp_def]
  have bl : ∀ b ∈ ballsF 0 v, 1 ≤ b.2 ∧ b.2 ≤ 3 := fun b hb => by
    rw [balls_idx] at hb
    obtain ⟨k, _, rfl⟩ := List.mem_map.mp hb
    exact ⟨by show (1 : Int) ≤ 1; omega, by show (1 : Int) ≤ 3; omega⟩
  have bz : (ballsF 0 v).length ≤ 700 := by
    rw [balls_idx, List.length_map]
    have := List.length_filter_le (fun k => decide (v.getD k 0 = 1)) (List.range v.length)
    rw [List.length_range] at this
    omega
  have lo := los_ok (V := .p (.lst ((ballsF 0 v).map pairP))) (bs := ballsF 0 v) (fun S => rfl) bz bl
  rw [e] at lo
  have i0 : ∀ (x y : PV) (S : AH), ixO (.p (.tup [x, y])) (.p (.int 0)) S = some (.p x, S) := fun x y S => ixO_tup rfl
  have j0 : ∀ (x y z : PV) (S : AH), ixO (.p (.tup [x, y, z])) (.p (.int 0)) S = some (.p x, S) := fun x y z S => ixO_tup rfl
  unfold listsV at lo
  simp only [tupI, List.map_cons, List.map_nil] at t lc lo ⊢
  generalize hB : (ballsF 0 v).map pairP = B at *
  generalize hV : v.map PV.int = V at *
  have vl : V.length = v.length := by rw [← hV, List.length_map]
  generalize (sortP L).map pairP = R at *
  generalize w.map PV.int = W at *
  generalize tr.map tupI = TT at *
  simp [d_high_strings, b_high_strings_, t, vl, rg, ev_kLc hz, wipeD, lc, lo, i0, j0]
theorem hs_ok {w : List Int} (h : Ring w) {d : Int} (hh : hiB 0 (trn d w) = true) : ∃ L : SL, KI (trn d w) L ∧ ∀ S, d_high_strings [.p (tupI w), .p (.int d)] S = .ok (.p (.tup ((sortP L).map pairP))) S := by
  obtain ⟨L, k, e⟩ := hs_all h hh
  exact ⟨L, k.1, e⟩
/-- the shape that is told: descending parts from 1 on, told by the energies -/
structure ShpOf (w ls : List Int) : Prop where
  d : ls.Pairwise (· ≥ ·)
  p : ∀ m ∈ ls, 1 ≤ m
  e : ∀ k : Nat, bx ls k = En k w
/-- one shape for all rings with these energies -/
theorem shp_uniq {w v a b : List Int} (h : Ring w) (ha : ShpOf w a) (hb : ShpOf v b) (e : ∀ k : Nat, En k v = En k w) : b = a := by
  obtain ⟨cs, el, _⟩ := elim_ex 40 h (by have := h.s; have := h.m; have := bits_nn h.b; omega)
  have pa := parts_due ha.d ha.p (cs := cs) fun k => by rw [ha.e k, elim_en el h]
  have pb := parts_due hb.d hb.p (cs := cs) fun k => by rw [hb.e k, e k, elim_en el h]
  have la : b.length = a.length := by
    by_cases c : cs = []
    · rw [pa.2.2.2.2.1 c, pb.2.2.2.2.1 c]
    · have x := pa.2.2.2.1 c
      have y := pb.2.2.2.1 c
      rw [x] at y
      have := Option.some.inj y
      omega
  rw [← pa.1, ← pb.1, la]
end DL
namespace DL
open PySem L2
/-! ### the law's own shape, walked -/
theorem notIn_ints {ns : List Int} {k : Int} {S : AH} : notInO (.p (.int k)) (.p (.lst (ns.map PV.int))) S = some (.p (.bl (!decide (k ∈ ns))), S) := by
  show (match intsOf (ns.map PV.int) with | some ns => some (DV.p (.bl (!decide (k ∈ ns))), S) | none => none) = _
  rw [intsOf_map]
theorem in_ints {ns : List Int} {k : Int} {S : AH} : inO (.p (.int k)) (.p (.lst (ns.map PV.int))) S = some (.p (.bl (decide (k ∈ ns))), S) := by
  show (match intsOf (ns.map PV.int) with | some ns => some (DV.p (.bl (decide (k ∈ ns))), S) | none => none) = _
  rw [intsOf_map]
def goneL (w : List Int) : List Nat := (List.range w.length).filter (goneF w)
def outL (w : List Int) : List Int := (goneL w).map (fun (k : Nat) => (k : Int)) ++ (goneL w).map fun (k : Nat) => (((k + 1) % w.length : Nat) : Int)
theorem stay_idx {w : List Int} (h : Ring w) : ((List.range w.length).filter fun (k : Nat) => !decide ((k : Int) ∈ outL w)).map (fun (k : Nat) => w.getD k 0) = stay w := by
  unfold stay
  rw [kp_idx]
  congr 1
  refine List.filter_congr fun k hk => ?_
  have hk := List.mem_range.mp hk
  have e := ext3_ring h.b h.p hk
  have m : (k : Int) ∈ outL w ↔ goneF w k = true ∨ ∃ g < w.length, goneF w g = true ∧ (g + 1) % w.length = k := by
    unfold outL goneL
    rw [List.mem_append]
    constructor
    · rintro (q | q)
      · obtain ⟨j, hj, e2⟩ := List.mem_map.mp q
        have : j = k := by omega
        subst this
        exact .inl (List.mem_filter.mp hj).2
      · obtain ⟨j, hj, e2⟩ := List.mem_map.mp q
        have hj := List.mem_filter.mp hj
        exact .inr ⟨j, List.mem_range.mp hj.1, hj.2, by omega⟩
    · rintro (q | ⟨g, gl, q1, q2⟩)
      · exact .inl (List.mem_map.mpr ⟨k, List.mem_filter.mpr ⟨List.mem_range.mpr hk, q⟩, rfl⟩)
      · exact .inr (List.mem_map.mpr ⟨g, List.mem_filter.mpr ⟨List.mem_range.mpr gl, q1⟩, by omega⟩)
  have e2 : ext3 (lastL 0 w) w (hd w 0) k = decide ((k : Int) ∈ outL w) := by
    rw [Bool.eq_iff_iff, e, decide_eq_true_eq, m]
  rw [e2]
theorem pairs_idx {w : List Int} (h : Ring w) : nPairs w = ((goneL w).length : Int) := by
  unfold nPairs goneL
  rw [dn_idx]
  congr 2
  refine List.filter_congr fun k hk => ?_
  exact gon2_ring h.p (List.mem_range.mp hk)
theorem ls_turn {w : List Int} (h : Ring w) (W : Option DV) (S : AH) (acc : List PV) (za : acc.length ≤ 1000) (d3 d4 d5 d6 d7 d8 : Option DV) : ∃ e3 e4 e6, L0_law_shape [W, some (.p (.lst (w.map PV.int))), some (.c S.length), d3, d4, d5, d6, d7, d8] (S ++ [.lst acc]) = .nx [W, some (.p (.lst ((stay w).map PV.int))), some (.c S.length), e3, e4, d5, e6, d7, d8] (S ++ [.lst (acc ++ [.int (nPairs w)])]) := by
  have wm := h.m
  have wp := h.p
  have rg := rg_len w.length (by omega)
  have hz : (rangeI 0 w.length).length ≤ 16777216 := by rw [rangeI_len]; omega
  have ix : ∀ k, k < w.length → ∀ S, ixO (.p (.lst (w.map PV.int))) (.p (.int (k : Int))) S = some (.p (.int (w.getD k 0)), S) := fun k hk S => ixO_lst (atI_at (by omega) (by
    rw [Int.toNat_natCast, List.getElem?_map, List.getElem?_eq_getElem hk]
    simp [List.getD, hk]))
  have md : ∀ (k : Nat) (S : AH), modO (.p (.int ((k : Int) + 1))) (.p (.int (w.length : Int))) S = some (.p (.int (((k + 1) % w.length : Nat) : Int)), S) := fun k S => by
    rw [modO_int (by omega), Int.natCast_emod]
    rfl
  have gl : (goneL w).length ≤ 40 := by
    unfold goneL
    have := List.length_filter_le (goneF w) (List.range w.length)
    rw [List.length_range] at this
    omega
  have lc1 : ∀ (n4 n6 n7 n8 : Option DV), lcGo ckT (.nm 5) (dAnd (blOf (dBin eqO (dBin ixO (dVar 1) (dVar 5)) (dC (.int 1)))) (blOf (dBin eqO (dBin ixO (dVar 1) (dBin modO (dApp intO (dCons (dBin addO (dVar 5) (dC (.int 1))) dNil)) (dVar 3))) (dC (.int 0))))) (dVar 5) [W, some (.p (.lst (w.map PV.int))), some (.c S.length), some (.p (.int (w.length : Int))), n4, none, n6, n7, n8] (rangeI 0 w.length) (S ++ [.lst acc]) = .ok ((goneL w).map fun (k : Nat) => .int (k : Int)) (S ++ [.lst acc]) := fun n4 n6 n7 n8 => by
    unfold goneL
    rw [lc_rfilter (goneF w) (fun k => .int (k : Int)) (fun k hk => by
      have i1 := ix k hk
      have i2 := ix ((k + 1) % w.length) (Nat.mod_lt _ wp)
      have m := md k
      unfold goneF
      generalize w.getD k 0 = y at *
      generalize w.getD ((k + 1) % w.length) 0 = z at *
      generalize (((k + 1) % w.length : Nat) : Int) = kk at *
      generalize w.map PV.int = V at *
      by_cases c : y = 1
      · simp [i1, i2, m, c]
      · simp [i1, c]) (fun k hk _ => by simp)]
  have lc2 : ∀ (n7 n8 : Option DV), lcGo ckT (.nm 5) dYes (dBin modO (dApp intO (dCons (dBin addO (dVar 5) (dC (.int 1))) dNil)) (dVar 3)) [W, some (.p (.lst (w.map PV.int))), some (.c S.length), some (.p (.int (w.length : Int))), some (.p (.lst ((goneL w).map fun (k : Nat) => .int (k : Int)))), none, d6, n7, n8] (dit ((goneL w).map fun (k : Nat) => PV.int (k : Int))) (S ++ [.lst acc]) = .ok ((goneL w).map fun (k : Nat) => .int (((k + 1) % w.length : Nat) : Int)) (S ++ [.lst acc]) := fun n7 n8 =>
    tl_map trivial (fun (k : Nat) => PV.int (k : Int)) (fun (k : Nat) => .int (((k + 1) % w.length : Nat) : Int)) _ fun k hk => ⟨_, rfl, by
      have m := md k
      generalize (((k + 1) % w.length : Nat) : Int) = kk at *
      simp [m]⟩
  have lc3 : ∀ (n4 n7 n8 : Option DV), lcGo ckT (.nm 5) (blOf (dBin notInO (dVar 5) (dVar 6))) (dBin ixO (dVar 1) (dVar 5)) [W, some (.p (.lst (w.map PV.int))), some (.c S.length), some (.p (.int (w.length : Int))), n4, none, some (.p (.lst ((outL w).map PV.int))), n7, n8] (rangeI 0 w.length) (S ++ [.lst acc]) = .ok ((stay w).map PV.int) (S ++ [.lst acc]) := fun n4 n7 n8 => by
    rw [lc_rfilter (fun k => !decide ((k : Int) ∈ outL w)) (fun k => .int (w.getD k 0)) (fun k hk => by
      have ni := notIn_ints (ns := outL w) (k := (k : Int)) (S := S ++ [.lst acc])
      generalize (outL w).map PV.int = O at *
      simp [ni]) (fun k hk _ => by
      have i1 := ix k hk
      generalize w.getD k 0 = y at *
      simp [i1]), ← stay_idx h, List.map_map]
    rfl
  have hz2 : (dit ((goneL w).map fun (k : Nat) => PV.int (k : Int))).length ≤ 16777216 := by rw [dit_len, List.length_map]; omega
  have ad : ∀ S, addO (.p (.lst ((goneL w).map fun (k : Nat) => .int (k : Int)))) (.p (.lst ((goneL w).map fun (k : Nat) => .int (((k + 1) % w.length : Nat) : Int)))) S = some (.p (.lst ((outL w).map PV.int)), S) := fun S => by
    rw [addO_lst (by rw [List.length_map, List.length_map]; omega)]
    unfold outL
    rw [List.map_append, List.map_map, List.map_map]
    rfl
  have np := pairs_idx h
  have ap : ∀ y : PV, appendM (.c S.length) [.p y] (S ++ [.lst acc]) = some (.p .non, S ++ [.lst (acc ++ [y])]) := fun y => append_last (by omega)
  refine ⟨some (.p (.int (w.length : Int))), some (.p (.lst ((goneL w).map fun (k : Nat) => .int (k : Int)))), some (.p (.lst ((outL w).map PV.int))), ?_⟩
  rw [np]
  unfold L0_law_shape
  have wl : ((w.map PV.int).length : Int) = w.length := by rw [List.length_map]
  have gln : (((goneL w).map fun (k : Nat) => PV.int (k : Int)).length : Int) = (goneL w).length := by rw [List.length_map]
  generalize ((goneL w).map fun (k : Nat) => PV.int (((k + 1) % w.length : Nat) : Int)) = G2 at *
  generalize ((goneL w).map fun (k : Nat) => PV.int (k : Int)) = G at *
  generalize (outL w).map PV.int = O at *
  generalize (stay w).map PV.int = ST at *
  generalize w.map PV.int = V at *
  generalize ((goneL w).length : Int) = gn at *
  refine seq_st (δ1 := [W, some (.p (.lst V)), some (.c S.length), some (.p (.int (w.length : Int))), d4, d5, d6, d7, d8]) (S1 := S ++ [.lst acc]) (by simp [wl]) ?_
  refine seq_st (δ1 := [W, some (.p (.lst V)), some (.c S.length), some (.p (.int (w.length : Int))), some (.p (.lst G)), d5, d6, d7, d8]) (S1 := S ++ [.lst acc]) (by simp [rg, ev_kLc hz, wipeD, lc1]) ?_
  refine seq_st (δ1 := [W, some (.p (.lst V)), some (.c S.length), some (.p (.int (w.length : Int))), some (.p (.lst G)), d5, some (.p (.lst O)), d7, d8]) (S1 := S ++ [.lst acc]) (by simp [ev_kLc hz2, wipeD, lc2, ad]) ?_
  refine seq_st (δ1 := [W, some (.p (.lst ST)), some (.c S.length), some (.p (.int (w.length : Int))), some (.p (.lst G)), d5, some (.p (.lst O)), d7, d8]) (S1 := S ++ [.lst acc]) (by simp [rg, ev_kLc hz, wipeD, lc3]) ?_
  simp [gln, ap]
theorem ls_loop {w cs : List Int} (el : Elim w cs) (W : Option DV) (S : AH) : Ring w → ∀ (acc : List Int) (d3 d4 d5 d6 d7 d8 : Option DV), acc.length + cs.length ≤ 900 → ∃ e1 e3 e4 e6, dWhile (blOf (dBin inO (dC (.int 1)) (dVar 1))) L0_law_shape [W, some (.p (.lst (w.map PV.int))), some (.c S.length), d3, d4, d5, d6, d7, d8] (S ++ [.lst (acc.map PV.int)]) = .nx [W, e1, some (.c S.length), e3, e4, d5, e6, d7, d8] (S ++ [.lst ((acc ++ cs).map PV.int)]) := by
  induction el with
  | @done w z =>
    intro h acc d3 d4 d5 d6 d7 d8 hz
    have no : ¬ (1 : Int) ∈ w := fun q => by
      have go : ∀ v : List Int, Bits v → 1 ∈ v → 0 < v.sum := by
        intro v
        induction v with
        | nil => intro _ q; cases q
        | cons b v ih =>
          intro hb q
          have nn := bits_nn hb.tl
          rw [List.sum_cons]
          rcases List.mem_cons.mp q with rfl | q
          · omega
          · have := ih hb.tl q
            rcases hb.hd with e | e <;> omega
      have := go w h.b q
      omega
    refine ⟨some (.p (.lst (w.map PV.int))), d3, d4, d6, ?_⟩
    have i := in_ints (ns := w) (k := 1) (S := S ++ [.lst (acc.map PV.int)])
    rw [decide_eq_false no] at i
    rw [List.append_nil]
    generalize w.map PV.int = V at *
    generalize acc.map PV.int = A at *
    rw [dWhile_eq, show (blOf (dBin inO (dC (.int 1)) (dVar 1))) [W, some (.p (.lst V)), some (.c S.length), d3, d4, d5, d6, d7, d8] (S ++ [.lst A]) = .ok false (S ++ [.lst A]) by simp [i], out_ok, if_neg Bool.false_ne_true]
  | @more w cs z _ ih =>
    intro h acc d3 d4 d5 d6 d7 d8 hz
    rw [List.length_cons] at hz
    obtain ⟨f3, f4, f6, t⟩ := ls_turn h W S (acc.map PV.int) (by rw [List.length_map]; omega) d3 d4 d5 d6 d7 d8
    obtain ⟨e1, e3, e4, e6, e⟩ := ih (stay_ring h).1 (acc ++ [nPairs w]) f3 f4 d5 f6 d7 d8 (by rw [List.length_append, List.length_singleton]; omega)
    refine ⟨e1, e3, e4, e6, ?_⟩
    have i := in_ints (ns := w) (k := 1) (S := S ++ [.lst (acc.map PV.int)])
    rw [decide_eq_true (one_in h.b z)] at i
    rw [List.append_assoc] at e
    have am : acc.map PV.int ++ [.int (nPairs w)] = (acc ++ [nPairs w]).map PV.int := by rw [List.map_append]; rfl
    rw [am] at t
    rw [dWhile_eq, show (blOf (dBin inO (dC (.int 1)) (dVar 1))) [W, some (.p (.lst (w.map PV.int))), some (.c S.length), d3, d4, d5, d6, d7, d8] (S ++ [.lst (acc.map PV.int)]) = .ok true (S ++ [.lst (acc.map PV.int)]) by
      generalize w.map PV.int = V at *
      generalize acc.map PV.int = A at *
      simp [i], out_ok, if_pos rfl, t]
    exact e
theorem lshape_ok {w : List Int} (h : Ring w) {ls : List Int} (sp : ShpOf w ls) (S : AH) : d_law_shape [.p (tupI w)] S = .ok (.p (tupI ls)) S := by
  obtain ⟨cs, el, cl⟩ := elim_ex 40 h (by have := h.s; have := h.m; have := bits_nn h.b; omega)
  have pd := parts_due sp.d sp.p (cs := cs) fun k => by rw [sp.e k, elim_en el h]
  obtain ⟨e1, e3, e4, e6, lo⟩ := ls_loop el (some (.p (tupI w))) S h [] none none none none none none (by simp; omega)
  rw [List.nil_append] at lo
  have mx : maxI (cs ++ [0]) = ls.length := by
    have m := maxI_mem (cs ++ [0]) (by simp)
    have up : maxI (cs ++ [0]) ≤ ls.length := by
      rcases List.mem_append.mp m.1 with q | q
      · exact pd.2.2.1 _ q
      · rw [List.mem_singleton.mp q]; omega
    by_cases c : cs = []
    · rw [pd.2.2.2.2.1 c]
      subst c
      rfl
    · have x := pd.2.2.2.1 c
      have : (ls.length : Int) ∈ cs := List.mem_of_head? x
      have := m.2 _ (List.mem_append_left _ this)
      omega
  have mo : ∀ S, maxO [.p (.lst (cs.map PV.int ++ [.int 0]))] S = some (.p (.int (ls.length : Int)), S) := fun S => by
    have := max_lst (l := cs ++ [0]) (S := S) (by simp)
    rw [List.map_append, mx] at this
    exact this
  have ad : addO (.c S.length) (.p (.lst [.int 0])) (S ++ [.lst (cs.map PV.int)]) = some (.p (.lst (cs.map PV.int ++ [.int 0])), S ++ [.lst (cs.map PV.int)]) := by
    have e : lstOf (.c S.length) (S ++ [.lst (cs.map PV.int)]) = some (cs.map PV.int) := by
      unfold lstOf
      simp [last_get]
    unfold addO
    simp only [e]
    show (if (cs.map PV.int).length + 1 ≤ sizeLine then _ else _) = _
    rw [if_pos (by rw [List.length_map, sizeLine_eq]; omega)]
  have ln : ls.length ≤ 700 := by
    have e1 := pd.2.2.2.2.2
    rw [elim_sum el h] at e1
    have go : ∀ M : List Int, (∀ m ∈ M, 1 ≤ m) → (M.length : Int) ≤ M.sum := by
      intro M
      induction M with
      | nil => intro _; exact Int.le_refl 0
      | cons s M ih =>
        intro hM
        have i := ih fun t ht => hM t (List.mem_cons_of_mem _ ht)
        have j := hM s List.mem_cons_self
        rw [List.length_cons, List.sum_cons]
        omega
    have := go ls sp.p
    have := h.s
    have := h.m
    omega
  have rg := rg_len ls.length (by omega)
  have hz : (rangeI 0 ls.length).length ≤ 16777216 := by rw [rangeI_len]; omega
  have hz2 : (dit (cs.map PV.int)).length ≤ 16777216 := by rw [dit_len, List.length_map]; omega
  have lg : (S ++ [Cell.lst (cs.map PV.int)])[S.length]? = some (.lst (cs.map PV.int)) := last_get
  have lc : ∀ n7 : Option DV, lcGo ckT (.nm 8) dYes (dApp lenO (dCons (dVal (dLc (dSeqI (dVar 2)) (.nm 7) (blOf (dBin gtO (dVar 7) (dVar 8))) (dVar 7) [7])) dNil)) [some (.p (tupI w)), e1, some (.c S.length), e3, e4, none, e6, n7, none] (rangeI 0 ls.length) (S ++ [.lst (cs.map PV.int)]) = .ok (ls.map PV.int) (S ++ [.lst (cs.map PV.int)]) := fun n7 => by
    rw [lc_rmap (fun i => .int (((cs.filter fun c => decide ((i : Int) < c)).length : Nat) : Int)) (fun i hi => by
      simp [ev_kSeqI_c lg, ev_kLc hz2, wipeD]
      rw [lc_filter (by exact lg) (fun v => match v with | .int c => decide ((i : Int) < c) | _ => false) id (fun v hv => by
        obtain ⟨c, _, rfl⟩ := List.mem_map.mp hv
        exact ⟨_, rfl, by simp, fun _ => by simp⟩), List.map_id, List.filter_map]
      simp [Function.comp_def])]
    have := pd.1
    unfold partsOf at this
    conv => rhs; rw [← this]
    rw [List.map_map]
    rfl
  refine (dDef_ap rfl).trans ?_
  show gcK S false (b_law_shape_ [some (.p (tupI w)), none, none, none, none, none, none, none, none] S) = _
  have body : b_law_shape_ [some (.p (tupI w)), none, none, none, none, none, none, none, none] S = .rt (.p (tupI ls)) (S ++ [.lst (cs.map PV.int)]) := by
    unfold b_law_shape_
    simp only [tupI] at lo lc ⊢
    have lf : ∀ S, kAppF listF [.p (.tup (w.map PV.int))] S = .ok (w.map PV.int) S := fun S => kAppF_some rfl
    generalize w.map PV.int = V at *
    generalize cs.map PV.int = C at *
    generalize ls.map PV.int = LS at *
    refine seq_st (δ1 := [some (.p (.tup V)), some (.p (.lst V)), some (.c S.length), none, none, none, none, none, none]) (S1 := S ++ [.lst []]) (by simp [lf, Pat.sets, Pat.set]) ?_
    refine seq_st (δ1 := [some (.p (.tup V)), e1, some (.c S.length), e3, e4, none, e6, none, none]) (S1 := S ++ [.lst C]) (by exact lo) ?_
    simp [ad, mo, rg, ev_kLc hz, wipeD, lc]
  rw [body]
  simp
end DL
namespace DL
open PySem L2
/-! ### shapes -/
inductive Sm : PV → Prop
  | non : Sm .non
  | bl (b : Bool) : Sm (.bl b)
  | int (i : Int) : Sm (.int i)
  | str (x : Str) : Sm (.str x)
  | tup (xs : List PV) : Sm (.tup xs)
  | lst (xs : List PV) : Sm (.lst xs)
def isI : PV → Bool
  | .int _ => true
  | _ => false
theorem isint_sm {x : PV} (h : Sm x) (S : AH) : d_is_integer [.p x] S = .ok (.p (.bl (isI x))) S := by
  cases h <;> simp [d_is_integer, b_is_integer_, isI]
/-- one that holds small values -/
def HV (v : PV) : Prop := Sm v ∧ ∀ xs, v = .tup xs → (∀ x ∈ xs, Sm x) ∧ xs.length ≤ 1000
/-- lengths that do not grow, each at least 1 -/
def Shp (sh : List Int) : Prop := (∀ i ∈ sh, 1 ≤ i) ∧ sh.Pairwise (fun a b => b ≤ a)
/-- what the walk through the parts finds -/
def upB : Option Int → Int → Bool
  | some q, i => decide (q < i)
  | none, _ => false
def partGo : Option Int → Int → List PV → Option Int
  | _, t, [] => some t
  | p, t, x :: xs => match x with
    | .int i => if i < 1 then none else if upB p i = true then none else partGo (some i) (t + i) xs
    | _ => none
theorem pg_nil {p : Option Int} {t : Int} : partGo p t [] = some t := rfl
theorem pg_low {p : Option Int} {t i : Int} {xs : List PV} (h : i < 1) : partGo p t (.int i :: xs) = none := by
  unfold partGo; simp only [if_pos h]
theorem pg_up {p : Option Int} {t i : Int} {xs : List PV} (h : upB p i = true) : partGo p t (.int i :: xs) = none := by
  unfold partGo; simp only [h, if_true, ite_self]
theorem pg_go {p : Option Int} {t i : Int} {xs : List PV} (h1 : ¬ i < 1) (h2 : upB p i = false) : partGo p t (.int i :: xs) = partGo (some i) (t + i) xs := by
  conv => lhs; unfold partGo
  simp only [if_neg h1, h2, Bool.false_eq_true, if_false]
theorem pg_no {p : Option Int} {t : Int} {x : PV} {xs : List PV} (h : isI x = false) : partGo p t (x :: xs) = none := by
  cases x <;> first | rfl | simp [isI] at h
theorem atI_app {pre xs : List PV} {x : PV} : atI (pre ++ x :: xs) (pre.length : Int) = some x := by
  refine atI_nat ?_
  rw [List.getElem?_append_right (Nat.le_refl _), Nat.sub_self]; rfl
theorem part_loop (e1 : Option DV) (S : AH) : ∀ (xs pre : List PV) (p : Option Int) (t : Int) (y : Option DV), (∀ x ∈ xs, Sm x) → (match p with | none => pre = [] | some q => ∃ pr, pre = pr ++ [.int q]) →
    ∃ y', forGo ckT (.nm 3) L0_is_partition (rangeI (pre.length : Nat) xs.length) [some (.p (.tup (pre ++ xs))), e1, some (.p (.int t)), y] S = (match partGo p t xs with | none => .rt (.p (.bl false)) S | some t' => .nx [some (.p (.tup (pre ++ xs))), e1, some (.p (.int t')), y'] S)
  | [], pre, p, t, y, _, _ => ⟨y, by rw [pg_nil]; exact for_nil⟩
  | x :: xs, pre, p, t, y, hs, hp => by
    have hx := hs x List.mem_cons_self
    have i0 : ∀ S : AH, ixO (.p (.tup (pre ++ x :: xs))) (.p (.int (pre.length : Int))) S = some (.p x, S) := fun S => ixO_tup atI_app
    have is := isint_sm hx
    rw [List.length_cons, range_succ, for_nm]
    by_cases hi : isI x = true
    · cases x with
      | int i =>
        by_cases h1 : i < 1
        · refine ⟨none, ?_⟩
          simp [L0_is_partition, pg_low h1, i0, is, isI, h1]
        · have rr : ∀ y, ∃ y', forGo ckT (.nm 3) L0_is_partition (rangeI ((pre.length : Int) + 1) xs.length) [some (.p (.tup (pre ++ .int i :: xs))), e1, some (.p (.int (t + i))), y] S = (match partGo (some i) (t + i) xs with | none => .rt (.p (.bl false)) S | some t' => .nx [some (.p (.tup (pre ++ .int i :: xs))), e1, some (.p (.int t')), y'] S) := fun y => by
            have := part_loop e1 S xs (pre ++ [.int i]) (some i) (t + i) y (fun z hz => hs z (List.mem_cons_of_mem _ hz)) ⟨pre, rfl⟩
            simpa using this
          cases p with
          | none =>
            have hp : pre = [] := hp
            obtain ⟨y', e⟩ := rr (some (.p (.int (pre.length : Int))))
            refine ⟨y', ?_⟩
            have g : ¬ 0 < pre.length := by rw [hp]; decide
            have st : L0_is_partition ([some (.p (.tup (pre ++ .int i :: xs))), e1, some (.p (.int t)), y].set 3 (some (.p (.int (pre.length : Int))))) S = .nx [some (.p (.tup (pre ++ .int i :: xs))), e1, some (.p (.int (t + i))), some (.p (.int (pre.length : Int)))] S := by
              simp [L0_is_partition, i0, is, isI, h1, g]
            rw [st, after_nx, e, pg_go h1 rfl]
          | some q =>
            obtain ⟨pr, hpr⟩ : ∃ pr, pre = pr ++ [.int q] := hp
            have g : 0 < pre.length := by rw [hpr, List.length_append]; simp
            have i1 : ∀ S : AH, ixO (.p (.tup (pre ++ .int i :: xs))) (.p (.int ((pre.length : Int) - 1))) S = some (.p (.int q), S) := fun S => ixO_tup (by
              have : (pre.length : Int) - 1 = (pr.length : Int) := by rw [hpr, List.length_append]; simp
              rw [this, hpr, List.append_assoc]
              exact atI_app)
            by_cases h2 : q < i
            · refine ⟨none, ?_⟩
              simp [L0_is_partition, pg_up (show upB (some q) i = true from decide_eq_true h2), i0, i1, is, isI, h1, g, h2]
            · obtain ⟨y', e⟩ := rr (some (.p (.int (pre.length : Int))))
              refine ⟨y', ?_⟩
              have st : L0_is_partition ([some (.p (.tup (pre ++ .int i :: xs))), e1, some (.p (.int t)), y].set 3 (some (.p (.int (pre.length : Int))))) S = .nx [some (.p (.tup (pre ++ .int i :: xs))), e1, some (.p (.int (t + i))), some (.p (.int (pre.length : Int)))] S := by
                simp [L0_is_partition, i0, i1, is, isI, h1, g, h2]
              rw [st, after_nx, e, pg_go h1 (show upB (some q) i = false from decide_eq_false h2)]
      | _ => simp [isI] at hi
    · refine ⟨none, ?_⟩
      have hi : isI x = false := by simpa using hi
      have pg : partGo p t (x :: xs) = none := pg_no hi
      rw [pg]
      simp [L0_is_partition, i0, is, hi]
/-- whether a value is a partition, and of what -/
def partOf : PV → Option Int
  | .tup xs => partGo none 0 xs
  | _ => none
theorem part_eval {v : PV} (h : HV v) (m : Int) (S : AH) : d_is_partition [.p v, .p (.int m)] S = .ok (.p (.bl (match partOf v with | none => false | some t => decide (t ≤ m)))) S := by
  obtain ⟨h1, h2⟩ := h
  cases h1 with
  | tup xs =>
    obtain ⟨h3, h4⟩ := h2 xs rfl
    obtain ⟨y', e⟩ := part_loop (some (.p (.int m))) S xs [] none 0 none h3 rfl
    simp only [List.length_nil, List.nil_append] at e
    have e : forGo ckT (.nm 3) L0_is_partition (rangeI 0 xs.length) [some (.p (.tup xs)), some (.p (.int m)), some (.p (.int 0)), none] S = _ := e
    have rg := rg_len xs.length (by omega)
    simp only [partOf]
    cases q : partGo none 0 xs with
    | none =>
      rw [q] at e
      simp [d_is_partition, b_is_partition_, rg, e]
    | some t =>
      rw [q] at e
      simp [d_is_partition, b_is_partition_, rg, e]
  | _ => simp [d_is_partition, b_is_partition_, partOf]
theorem partGo_ints : ∀ (sh : List Int) (p : Option Int) (t : Int), (∀ i ∈ sh, 1 ≤ i) → sh.Pairwise (fun a b => b ≤ a) → (∀ q, p = some q → ∀ i ∈ sh, i ≤ q) → partGo p t (sh.map PV.int) = some (t + sh.sum)
  | [], p, t, _, _, _ => by simp [partGo]
  | i :: sh, p, t, h1, h2, h3 => by
    obtain ⟨h4, h5⟩ := List.pairwise_cons.mp h2
    have a := h1 i List.mem_cons_self
    have r := partGo_ints sh (some i) (t + i) (fun j hj => h1 j (List.mem_cons_of_mem _ hj)) h5 (fun q e j hj => by cases e; exact h4 j hj)
    rw [List.map_cons, pg_go (by omega) (by
      cases p with
      | none => rfl
      | some q =>
        have := h3 q rfl i List.mem_cons_self
        exact decide_eq_false (by omega)), List.sum_cons, show t + (i + sh.sum) = t + i + sh.sum by omega]
    exact r
theorem partGo_back : ∀ (xs : List PV) (p : Option Int) (t u : Int), partGo p t xs = some u → ∃ sh : List Int, xs = sh.map PV.int ∧ (∀ i ∈ sh, 1 ≤ i) ∧ sh.Pairwise (fun a b => b ≤ a) ∧ (∀ q, p = some q → ∀ i ∈ sh, i ≤ q) ∧ u = t + sh.sum
  | [], p, t, u, h => by
    rw [pg_nil] at h
    cases h
    exact ⟨[], rfl, by simp, .nil, by simp, by simp⟩
  | x :: xs, p, t, u, h => by
    cases hi : isI x with
    | false => rw [pg_no hi] at h; cases h
    | true =>
      obtain ⟨i, rfl⟩ : ∃ i, x = .int i := by cases x <;> first | exact ⟨_, rfl⟩ | simp [isI] at hi
      by_cases h1 : i < 1
      · rw [pg_low h1] at h; cases h
      cases h2 : upB p i with
      | true => rw [pg_up h2] at h; cases h
      | false =>
      rw [pg_go h1 h2] at h
      have k1 : ∀ q, p = some q → i ≤ q := fun q e => by
        subst e
        have := of_decide_eq_false h2
        omega
      obtain ⟨sh, rfl, r1, r2, r3, r4⟩ := partGo_back xs (some i) (t + i) u h
      have r3 := r3 i rfl
      refine ⟨i :: sh, rfl, fun j hj => ?_, List.pairwise_cons.mpr ⟨r3, r2⟩, fun q e j hj => ?_, by rw [r4, List.sum_cons]; omega⟩
      · rcases List.mem_cons.mp hj with rfl | hj
        · omega
        · exact r1 j hj
      · have a := k1 q e
        rcases List.mem_cons.mp hj with rfl | hj
        · exact a
        · have := r3 j hj; omega
theorem ints_inj {a b : List Int} (h : a.map PV.int = b.map PV.int) : a = b := by
  rwa [List.map_inj_right (fun a b h => by cases h; rfl)] at h
theorem tupI_inj {a b : List Int} (h : tupI a = tupI b) : a = b := ints_inj (PV.tup.inj h)
/-- it is a shape for rings of z boxes -/
def ShapeFor (v s : PV) : Prop := ∃ (sh : List Int) (z : Int), v = tupI sh ∧ s = .int z ∧ 1 ≤ z ∧ z ≤ 40 ∧ Shp sh ∧ 2 * sh.sum < z
theorem shape_eval {v s : PV} (h : HV v) (hs : Sm s) : ∃ b : Bool, (∀ S : AH, d_is_shape [.p v, .p s] S = .ok (.p (.bl b)) S) ∧ (b = true ↔ ShapeFor v s) := by
  have i0 := isint_sm hs
  have pe := part_eval h 40
  have k : (∀ (m : Int) (S : AH), mulO1 (.p (.int 2)) (.p (.int m)) S = some (.p (.int (2 * m)), S)) := fun m S => mulO1_int (mulOk_l (by decide))
  have no : ¬ ShapeFor v s → (∀ S : AH, d_is_shape [.p v, .p s] S = .ok (.p (.bl false)) S) → ∃ b : Bool, (∀ S : AH, d_is_shape [.p v, .p s] S = .ok (.p (.bl b)) S) ∧ (b = true ↔ ShapeFor v s) := fun n e => ⟨false, e, by simp [n]⟩
  cases hs with
  | int z =>
    by_cases h1 : z < 1
    · exact no (fun ⟨sh, z', _, e, q, _⟩ => by cases e; omega) fun S => by simp [d_is_shape, b_is_shape_, i0, isI, h1]
    by_cases h2 : 40 < z
    · exact no (fun ⟨sh, z', _, e, _, q, _⟩ => by cases e; omega) fun S => by simp [d_is_shape, b_is_shape_, i0, isI, h1, h2]
    cases q : partOf v with
    | none =>
      refine no (fun ⟨sh, z', e, _, _, _, ⟨g1, g2⟩, _⟩ => ?_) fun S => by simp [d_is_shape, b_is_shape_, i0, isI, h1, h2, pe, q]
      rw [e] at q
      have : partGo none 0 (sh.map PV.int) = none := q
      rw [partGo_ints sh none 0 g1 g2 (by simp)] at this
      cases this
    | some t =>
      have : ∃ xs, v = .tup xs ∧ partGo none 0 xs = some t := by
        cases v <;> first | (simp [partOf] at q; done) | exact ⟨_, rfl, q⟩
      obtain ⟨xs, rfl, e⟩ := this
      obtain ⟨sh, rfl, g1, g2, _, g4⟩ := partGo_back xs none 0 t e
      have g4 : t = sh.sum := by omega
      subst g4
      by_cases h3 : sh.sum ≤ 40
      · by_cases h4 : 2 * sh.sum < z
        · refine ⟨true, fun S => by simp [d_is_shape, b_is_shape_, i0, isI, h1, h2, pe, q, h3, sumO_tup, k, h4], ?_⟩
          simp only [true_iff]
          exact ⟨sh, z, rfl, rfl, by omega, by omega, ⟨g1, g2⟩, h4⟩
        · refine no (fun ⟨sh', z', e1, e2, _, _, _, w⟩ => ?_) fun S => by simp [d_is_shape, b_is_shape_, i0, isI, h1, h2, pe, q, h3, sumO_tup, k, h4]
          cases e2
          have e1 := tupI_inj e1
          subst e1
          exact h4 w
      · refine no (fun ⟨sh', z', e1, e2, _, _, _, w⟩ => ?_) fun S => by simp [d_is_shape, b_is_shape_, i0, isI, h1, h2, pe, q, h3]
        cases e2
        have e1 := tupI_inj e1
        subst e1
        omega
  | _ => exact no (fun ⟨sh, z', _, e, _⟩ => by cases e) fun S => by simp [d_is_shape, b_is_shape_, i0, isI]
theorem hv_ints {w : List Int} (h : w.length ≤ 1000) : HV (tupI w) := ⟨.tup _, fun xs e => by
  cases e
  refine ⟨fun x hx => ?_, by rw [List.length_map]; exact h⟩
  obtain ⟨i, _, rfl⟩ := List.mem_map.mp hx
  exact .int i⟩
theorem shape_yes {v s : PV} (h : HV v) (hs : Sm s) (q : ShapeFor v s) (S : AH) : d_is_shape [.p v, .p s] S = .ok (.p (.bl true)) S := by
  obtain ⟨b, e, k⟩ := shape_eval h hs
  rw [k.mpr q] at e
  exact e S
theorem shape_no {v s : PV} (h : HV v) (hs : Sm s) (q : ¬ ShapeFor v s) (S : AH) : d_is_shape [.p v, .p s] S = .ok (.p (.bl false)) S := by
  obtain ⟨b, e, k⟩ := shape_eval h hs
  have : b = false := by
    cases b
    · rfl
    · exact absurd (k.mp rfl) q
  rw [this] at e
  exact e S
end DL
namespace DL
open PySem L2
/-! ### rounds -/
def rdV (r : Int × List Int) : PV := .tup [.int r.1, tupI r.2]
theorem rdV_inj {a b : Int × List Int} (h : rdV a = rdV b) : a = b := by
  obtain ⟨a1, a2⟩ := a
  obtain ⟨b1, b2⟩ := b
  have h := PV.tup.inj h
  injection h with h1 h2
  injection h2 with h2 h3
  have := tupI_inj h2
  injection h1 with h1
  simp only at this h1
  rw [this, h1]
def GoodR (r : Int × List Int) : Prop := r.2 ≠ [] ∧ r.2.Pairwise (fun a b => a ≤ b)
theorem adj_pw (R : Int → Int → Prop) (tr : ∀ a b c, R a b → R b c → R a c) : ∀ ns : List Int, (∀ k, k + 1 < ns.length → R (ns.getD k 0) (ns.getD (k + 1) 0)) ↔ ns.Pairwise R
  | [] => by simp
  | [a] => by simp
  | a :: b :: r => by
    have ih := adj_pw R tr (b :: r)
    constructor
    · intro h
      have h2 := ih.mp fun k hk => by
        have := h (k + 1) (by simp at hk ⊢; omega)
        simpa using this
      have h0 : R a b := by simpa using h 0 (by simp)
      refine List.pairwise_cons.mpr ⟨fun x hx => ?_, h2⟩
      rcases List.mem_cons.mp hx with rfl | hx
      · exact h0
      · exact tr _ _ _ h0 ((List.pairwise_cons.mp h2).1 x hx)
    · intro h k hk
      obtain ⟨h1, h2⟩ := List.pairwise_cons.mp h
      cases k with
      | zero => simpa using h1 b List.mem_cons_self
      | succ k =>
        have := ih.mpr h2 k (by simp at hk ⊢; omega)
        simpa using this
theorem rg_pred (n : Nat) (h : n ≤ 1000000) (S : AH) : kRng1 [.p (.int ((n : Int) - 1))] S = .ok (rangeI 0 (n - 1), ckT) S := by
  rw [kRng1_ok (small62_of (show -(2 ^ 62) < (n : Int) - 1 ∧ (n : Int) - 1 < 2 ^ 62 by omega))]
  have : ((n : Int) - 1).toNat = n - 1 := by omega
  rw [this]
theorem getD_ix {ns : List Int} {k : Nat} (h : k < ns.length) (S : AH) : ixO (.p (.tup (ns.map PV.int))) (.p (.int (k : Int))) S = some (.p (.int (ns.getD k 0)), S) := by
  refine ixO_tup (atI_map PV.int (atI_nat ?_))
  rw [List.getD_eq_getElem?_getD, List.getElem?_eq_getElem h]; rfl
/-- a value that may be looked at as a round -/
def RV (v : PV) : Prop := Sm v ∧ ∀ xs, v = .tup xs → (∀ x ∈ xs, HV x) ∧ xs.length ≤ 1000
theorem all_isI {xs : List PV} (h : xs.all isI = true) : ∃ ns : List Int, xs = ns.map PV.int := by
  induction xs with
  | nil => exact ⟨[], rfl⟩
  | cons x xs ih =>
    rw [List.all_cons, Bool.and_eq_true] at h
    obtain ⟨ns, rfl⟩ := ih h.2
    cases x with
    | int i => exact ⟨i :: ns, rfl⟩
    | _ => simp [isI] at h
theorem all_isint {xs : List PV} (h : ∀ x ∈ xs, Sm x) {i : Nat} {δ : Sig} {S : AH} (hd : δ.length = 4) (hi : i = 2) : lcGo ckT (.nm i) dYes (dCall d_is_integer (dCons (dVar i) dNil)) δ (dit xs) S = .ok ((xs.map isI).map PV.bl) S := by
  subst hi
  match δ, hd with
  | [a, b, c, d], _ =>
    rw [lc_map trivial (fun x => .bl (isI x)) (fun x hx => ⟨_, rfl, by simp [isint_sm (h x hx)]⟩)]
    rw [List.map_map]; rfl
theorem round_eval {v : PV} (h : RV v) : ∃ b : Bool, (∀ S : AH, d_is_round [.p v] S = .ok (.p (.bl b)) S) ∧ (b = true ↔ ∃ r, v = rdV r ∧ GoodR r) := by
  obtain ⟨h1, h2⟩ := h
  have no : (¬ ∃ r, v = rdV r ∧ GoodR r) → (∀ S : AH, d_is_round [.p v] S = .ok (.p (.bl false)) S) → ∃ b : Bool, (∀ S : AH, d_is_round [.p v] S = .ok (.p (.bl b)) S) ∧ (b = true ↔ ∃ r, v = rdV r ∧ GoodR r) := fun n e => ⟨false, e, by simp [n]⟩
  cases h1 with
  | tup xs =>
    obtain ⟨h3, h4⟩ := h2 xs rfl
    by_cases hl : xs.length = 2
    · match xs, hl with
      | [x0, x1], _ =>
        have s0 := (h3 x0 (by simp)).1
        have s1 := h3 x1 (by simp)
        have i0 : ∀ S : AH, ixO (.p (.tup [x0, x1])) (.p (.int 0)) S = some (.p x0, S) := fun S => ixO_tup rfl
        have i1 : ∀ S : AH, ixO (.p (.tup [x0, x1])) (.p (.int 1)) S = some (.p x1, S) := fun S => ixO_tup rfl
        have is := isint_sm s0
        cases q : isI x0 with
        | false =>
          refine no (fun ⟨r, e, _⟩ => ?_) fun S => by simp [d_is_round, b_is_round_, i0, is, q]
          have e := PV.tup.inj e
          injection e with e1 e2
          rw [e1] at q
          cases q
        | true =>
          obtain ⟨k, rfl⟩ : ∃ k, x0 = .int k := by cases x0 <;> first | exact ⟨_, rfl⟩ | simp [isI] at q
          obtain ⟨t1, t2⟩ := s1
          have nt : (∀ a, x1 ≠ .tup a) → ¬ ∃ r, PV.tup [.int k, x1] = rdV r ∧ GoodR r := fun n ⟨r, e, _⟩ => by
            have e := PV.tup.inj e
            injection e with e1 e2
            injection e2 with e2 e3
            exact n _ e2
          cases t1 with
          | tup a =>
            obtain ⟨t3, t4⟩ := t2 a rfl
            by_cases ha : a.length = 0
            · have : a = [] := List.length_eq_zero_iff.mp ha
              subst this
              refine no (fun ⟨r, e, g, _⟩ => ?_) fun S => by simp [d_is_round, b_is_round_, i0, i1, is, isI]
              have e := PV.tup.inj e
              injection e with e1 e2
              injection e2 with e2 e3
              have e2 := PV.tup.inj e2
              have : r.2 = [] := List.map_eq_nil_iff.mp e2.symm
              exact g this
            have hz : (dit a).length ≤ 16777216 := by rw [dit_len]; omega
            have li : ∀ S : AH, lcGo ckT (.nm 2) dYes (dCall d_is_integer (dCons (dVar 2) dNil)) [some (.p (.tup [.int k, .tup a])), some (.p (.tup a)), none, none] (dit a) S = _ := fun S => all_isint t3 rfl rfl
            cases qa : a.all isI with
            | false =>
              have al : ∀ S : AH, allO [.p (.lst ((a.map isI).map PV.bl))] S = some (.p (.bl false), S) := fun S => by
                rw [allO_lst, List.all_map]
                show some (DV.p (.bl (a.all isI)), S) = _
                rw [qa]
              refine no (fun ⟨r, e, g, _⟩ => ?_) fun S => by simp [d_is_round, b_is_round_, i0, i1, is, isI, ha, ev_kLc hz, wipeD, li, al, -List.map_map]
              have e := PV.tup.inj e
              injection e with e1 e2
              injection e2 with e2 e3
              have e2 := PV.tup.inj e2
              rw [e2, List.all_map] at qa
              have : r.2.all (isI ∘ PV.int) = true := List.all_eq_true.mpr fun x _ => rfl
              rw [this] at qa
              cases qa
            | true =>
              have al : ∀ S : AH, allO [.p (.lst ((a.map isI).map PV.bl))] S = some (.p (.bl true), S) := fun S => by
                rw [allO_lst, List.all_map]
                show some (DV.p (.bl (a.all isI)), S) = _
                rw [qa]
              obtain ⟨ns, rfl⟩ := all_isI qa
              rw [List.length_map] at ha t4
              have rg := rg_pred ns.length (by omega)
              have hz2 : (rangeI 0 (ns.length - 1)).length ≤ 16777216 := by rw [rangeI_len]; omega
              have lb : ∀ S : AH, lcGo ckT (.nm 3) dYes (dBin leO (dBin ixO (dVar 1) (dVar 3)) (dBin ixO (dVar 1) (dBin addO (dVar 3) (dC (.int 1))))) [some (.p (.tup [.int k, .tup (ns.map PV.int)])), some (.p (.tup (ns.map PV.int))), none, none] (rangeI 0 (ns.length - 1)) S = .ok ((List.range (ns.length - 1)).map fun j => PV.bl (decide (ns.getD j 0 ≤ ns.getD (j + 1) 0))) S := fun S => lc_rmap _ (fun j hj => by
                have g0 := getD_ix (ns := ns) (k := j) (by omega)
                have g1 : ∀ S : AH, ixO (.p (.tup (ns.map PV.int))) (.p (.int ((j : Int) + 1))) S = some (.p (.int (ns.getD (j + 1) 0)), S) := getD_ix (ns := ns) (k := j + 1) (by omega)
                simp [g0, g1, -List.getD_eq_getElem?_getD])
              have al2 : ∀ S : AH, allO [.p (.lst ((List.range (ns.length - 1)).map fun j => PV.bl (decide (ns.getD j 0 ≤ ns.getD (j + 1) 0))))] S = some (.p (.bl (((List.range (ns.length - 1)).map fun j => decide (ns.getD j 0 ≤ ns.getD (j + 1) 0)).all id)), S) := fun S => by
                rw [← allO_lst, List.map_map]; rfl
              refine ⟨((List.range (ns.length - 1)).map fun j => decide (ns.getD j 0 ≤ ns.getD (j + 1) 0)).all id, fun S => ?_, ?_⟩
              · simp [d_is_round, b_is_round_, i0, i1, is, isI, ha, ev_kLc hz, wipeD, li, al, rg, ev_kLc hz2, lb, al2, -List.map_map, -List.getD_eq_getElem?_getD, -List.all_map]
              · have pw := adj_pw (fun a b => a ≤ b) (fun a b c h1 h2 => Int.le_trans h1 h2) ns
                rw [List.all_eq_true]
                constructor
                · intro h
                  refine ⟨(k, ns), rfl, fun e => ha (by rw [show ns = [] from e]; rfl), pw.mp fun j hj => ?_⟩
                  have := h _ (List.mem_map.mpr ⟨j, List.mem_range.mpr (by omega), rfl⟩)
                  exact of_decide_eq_true this
                · rintro ⟨r, e, g1, g2⟩ x hx
                  have e := rdV_inj (a := (k, ns)) e
                  subst e
                  obtain ⟨j, hj, rfl⟩ := List.mem_map.mp hx
                  have hj := List.mem_range.mp hj
                  exact decide_eq_true (pw.mpr g2 j (by omega))
          | non => exact no (nt (fun _ e => by cases e)) fun S => by simp [d_is_round, b_is_round_, i0, i1, is, isI]
          | bl _ => exact no (nt (fun _ e => by cases e)) fun S => by simp [d_is_round, b_is_round_, i0, i1, is, isI]
          | int _ => exact no (nt (fun _ e => by cases e)) fun S => by simp [d_is_round, b_is_round_, i0, i1, is, isI]
          | str _ => exact no (nt (fun _ e => by cases e)) fun S => by simp [d_is_round, b_is_round_, i0, i1, is, isI]
          | lst _ => exact no (nt (fun _ e => by cases e)) fun S => by simp [d_is_round, b_is_round_, i0, i1, is, isI]
    · have hl' : ¬ (xs.length : Int) = 2 := by omega
      refine no (fun ⟨r, e, _⟩ => ?_) fun S => by simp [d_is_round, b_is_round_, hl']
      have e := PV.tup.inj e
      rw [e] at hl
      exact hl rfl
  | non => exact no (fun ⟨r, e, _⟩ => by cases e) fun S => by simp [d_is_round, b_is_round_]
  | bl _ => exact no (fun ⟨r, e, _⟩ => by cases e) fun S => by simp [d_is_round, b_is_round_]
  | int _ => exact no (fun ⟨r, e, _⟩ => by cases e) fun S => by simp [d_is_round, b_is_round_]
  | str _ => exact no (fun ⟨r, e, _⟩ => by cases e) fun S => by simp [d_is_round, b_is_round_]
  | lst _ => exact no (fun ⟨r, e, _⟩ => by cases e) fun S => by simp [d_is_round, b_is_round_]
end DL
namespace DL
open PySem L2
theorem lc_mapD {α : Type} {q : Pat} {fe : Sig → AH → Res DV} {δ : Sig} {S : AH} (f g : α → PV) : ∀ rs : List α, (∀ r ∈ rs, ∃ δ2, q.set (.p (f r)) δ = some δ2 ∧ fe δ2 S = .ok (.p (g r)) S) → lcGo ckT q dYes fe δ (dit (rs.map f)) S = .ok (rs.map g) S
  | [], _ => lc_nil trivial
  | r :: rs, h => by
    obtain ⟨δ2, h1, h2⟩ := h r List.mem_cons_self
    rw [List.map_cons, dit_cons, lc_take trivial h1 rfl h2, lc_mapD f g rs fun y hy => h y (List.mem_cons_of_mem _ hy)]
    rfl
/-- a loop that only looks -/
theorem scan_range {fb : Sig → AH → Out} {i : Nat} {δ : Sig} {S : AH} {v : DV} : ∀ (n : Nat) (lo : Int) (p : Nat → Bool) (y0 : Option DV), (∀ k < n, fb (δ.set i (some (.p (.int (lo + (k : Int)))))) S = if p k = true then .nx (δ.set i (some (.p (.int (lo + (k : Int)))))) S else .rt v S) →
    ∃ y, forGo ckT (.nm i) fb (rangeI lo n) (δ.set i y0) S = if (List.range n).all p = true then .nx (δ.set i y) S else .rt v S
  | 0, lo, p, y0, _ => ⟨y0, by
    rw [show rangeI lo 0 = [] from rfl, for_nil]; rfl⟩
  | n + 1, lo, p, y0, h => by
    obtain ⟨y, e⟩ := scan_range n (lo + 1) (fun k => p (k + 1)) (some (.p (.int lo))) (fun k hk => by
      have := h (k + 1) (by omega)
      rwa [show lo + ((k + 1 : Nat) : Int) = lo + 1 + (k : Int) by omega] at this)
    have h0 := h 0 (by omega)
    rw [show lo + ((0 : Nat) : Int) = lo by omega] at h0
    refine ⟨y, ?_⟩
    rw [range_succ, for_nm, List.set_set, h0, List.range_succ_eq_map, List.all_cons, List.all_map]
    cases q : p 0 with
    | true => rw [if_pos rfl, after_nx, e, Bool.true_and]; rfl
    | false => rw [if_neg (by decide), if_neg (by simp)]; rfl
/-- the shape of rounds -/
def flatR (rs : List (Int × List Int)) : List Int := rs.flatMap fun r => List.replicate r.2.length r.1
def shapeR (rs : List (Int × List Int)) : List Int := (flatR rs).reverse
theorem mul_rep {x : PV} {k : Nat} (h : 1 ≤ k ∧ k ≤ 1000) (S : AH) : mulO1 (.p (.tup [x])) (.p (.int (k : Int))) S = some (.p (.tup (List.replicate k x)), S) := by
  rw [mulO1_tup ⟨by simp, by omega, by omega, by simp⟩]
  simp
def lensR (rs : List (Int × List Int)) : List Int := rs.map fun r => (r.2.length : Int)
theorem flat_len : ∀ rs : List (Int × List Int), ((flatR rs).length : Int) = (lensR rs).sum
  | [] => rfl
  | r :: rs => by
    have ih := flat_len rs
    unfold flatR lensR at *
    rw [List.flatMap_cons, List.length_append, List.length_replicate, List.map_cons, List.sum_cons]
    omega
theorem shape_loop (e0 : Option DV) (S : AH) : ∀ (rs : List (Int × List Int)) (acc : List Int) (y z : Option DV), (∀ r ∈ rs, r.2 ≠ [] ∧ r.2.length ≤ 1000) → acc.length + (flatR rs).length ≤ 1000 →
    ∃ y' z', forGo ckT (.tp [.nm 2, .nm 3]) L0_shape_of_rounds (dit (rs.map rdV)) [e0, some (.p (tupI acc)), y, z] S = .nx [e0, some (.p (tupI ((flatR rs).reverse ++ acc))), y', z'] S
  | [], acc, y, z, _, _ => ⟨y, z, for_nil⟩
  | r :: rs, acc, y, z, h, hl => by
    obtain ⟨h1, h2⟩ := h r List.mem_cons_self
    have h1 := List.length_pos_iff.mpr h1
    have fl : (flatR (r :: rs)).length = r.2.length + (flatR rs).length := by
      unfold flatR; rw [List.flatMap_cons, List.length_append, List.length_replicate]
    obtain ⟨y', z', e⟩ := shape_loop e0 S rs (List.replicate r.2.length r.1 ++ acc) (some (.p (.int r.1))) (some (.p (tupI r.2))) (fun q hq => h q (List.mem_cons_of_mem _ hq)) (by rw [List.length_append, List.length_replicate]; omega)
    refine ⟨y', z', ?_⟩
    have mr := mul_rep (x := .int r.1) (k := r.2.length) (by omega)
    have ad : ∀ S : AH, addO (.p (.tup (List.replicate r.2.length (.int r.1)))) (.p (.tup (acc.map PV.int))) S = some (.p (tupI (List.replicate r.2.length r.1 ++ acc)), S) := fun S => by
      rw [addO_tup (by rw [List.length_replicate, List.length_map]; omega)]
      unfold tupI
      rw [List.map_append, List.map_replicate]
    have st : L0_shape_of_rounds [e0, some (.p (tupI acc)), some (.p (.int r.1)), some (.p (tupI r.2))] S = .nx [e0, some (.p (tupI (List.replicate r.2.length r.1 ++ acc))), some (.p (.int r.1)), some (.p (tupI r.2))] S := by
      simp only [tupI] at ad ⊢
      simp [L0_shape_of_rounds, mr, ad, -List.map_append, -List.map_replicate]
    rw [List.map_cons, dit_cons, for_cons (δ1 := [e0, some (.p (tupI acc)), some (.p (.int r.1)), some (.p (tupI r.2))]) rfl, st, after_nx, e]
    unfold flatR
    rw [List.flatMap_cons, List.reverse_append, List.reverse_replicate, List.append_assoc]
theorem sor_ok {rs : List (Int × List Int)} (h : ∀ r ∈ rs, r.2 ≠ [] ∧ r.2.length ≤ 1000) (hl : (flatR rs).length ≤ 1000) (S : AH) : d_shape_of_rounds [.p (.tup (rs.map rdV))] S = .ok (.p (tupI (shapeR rs))) S := by
  obtain ⟨y', z', e⟩ := shape_loop (some (.p (.tup (rs.map rdV)))) S rs [] none none h (by simpa using hl)
  rw [List.append_nil] at e
  simp only [tupI, List.map_nil] at e ⊢
  simp [d_shape_of_rounds, b_shape_of_rounds_, e, shapeR]
def mn (k p : Int) : Int := if p < k then p else k
theorem boxes_ok {sh : List Int} (h : sh.length ≤ 1000) (k : Int) (S : AH) : d_boxes_to [.p (tupI sh), .p (.int k)] S = .ok (.p (.int (sh.map (mn k)).sum)) S := bx_ok h k S
def vcR (sh : List Int) (z k : Int) : Int := z - 2 * (sh.map (mn k)).sum
theorem voR_ok {sh : List Int} {z : Int} (h : sh.length ≤ 1000) (hs : ShapeFor (tupI sh) (.int z)) (k : Int) (S : AH) : d_vacancy_of_ring [.p (tupI sh), .p (.int z), .p (.int k)] S = .ok (.p (.int (vcR sh z k))) S := by
  have c := shape_yes (hv_ints h) (.int z) hs
  have b := boxes_ok h k
  have m : (∀ (m : Int) (S : AH), mulO1 (.p (.int 2)) (.p (.int m)) S = some (.p (.int (2 * m)), S)) := fun m S => mulO1_int (mulOk_l (by decide))
  have cs : ∀ S : AH, d_check_shape [.p (tupI sh), .p (.int z)] S = .ok (.p .non) S := fun S => by
    simp only [tupI] at c ⊢
    simp [d_check_shape, b_check_shape_, c]
  simp only [tupI] at b cs ⊢
  simp [d_vacancy_of_ring, b_vacancy_of_ring_, cs, b, m, vcR]
def hdI (a : List Int) : Int := a.getD 0 0
def laI (a : List Int) : Int := a.getD (a.length - 1) 0
theorem la_app (pre : List Int) (x : Int) : laI (pre ++ [x]) = x := by
  unfold laI
  rw [List.getD_eq_getElem?_getD, List.length_append, List.length_singleton, Nat.add_sub_cancel, List.getElem?_append_right (Nat.le_refl _), Nat.sub_self]; rfl
theorem ex_last {a : List Int} (h : a ≠ []) : a = a.dropLast ++ [laI a] := by
  have e := (List.dropLast_concat_getLast h).symm
  generalize a.dropLast = pre at e
  generalize a.getLast h = x at e
  rw [e, la_app]
theorem ix_last {a : List Int} (h : a ≠ []) (S : AH) : ixO (.p (.tup (a.map PV.int))) (.p (.int (-1))) S = some (.p (.int (laI a)), S) := by
  refine ixO_tup (atI_map PV.int ?_)
  rw [ex_last h, la_app]
  exact L2.atI_last _ _
theorem ix_first {a : List Int} (h : a ≠ []) (S : AH) : ixO (.p (.tup (a.map PV.int))) (.p (.int 0)) S = some (.p (.int (hdI a)), S) := getD_ix (k := 0) (List.length_pos_iff.mpr h) S
end DL
namespace DL
open PySem L2
/-- rounds of a shape for rings of z boxes -/
structure RoundsOK (rs : List (Int × List Int)) (z : Int) : Prop where
  g : ∀ r ∈ rs, GoodR r
  k : (rs.map (·.1)).Pairwise (fun a b => a < b)
  n : (lensR rs).sum ≤ 40
  s : ShapeFor (tupI (shapeR rs)) (.int z)
  v : ∀ r ∈ rs, laI r.2 ≤ hdI r.2 + vcR (shapeR rs) z r.1
def RoundsFor (v s : PV) : Prop := ∃ rs z, v = .tup (rs.map rdV) ∧ s = .int z ∧ RoundsOK rs z
theorem rdV_map_inj {a b : List (Int × List Int)} (h : a.map rdV = b.map rdV) : a = b := by
  rwa [List.map_inj_right (fun a b h => rdV_inj h)] at h
theorem len_le : ∀ {rs : List (Int × List Int)} {r : Int × List Int}, r ∈ rs → (r.2.length : Int) ≤ (lensR rs).sum
  | q :: rs, r, h => by
    have s0 : ∀ rs : List (Int × List Int), 0 ≤ (lensR rs).sum := fun rs => by
      have := flat_len rs; omega
    have := s0 rs
    unfold lensR at *
    rw [List.map_cons, List.sum_cons]
    rcases List.mem_cons.mp h with rfl | h
    · omega
    · have := len_le h
      unfold lensR at this
      omega
/-- a value that may be looked at as rounds -/
def HRV (v : PV) : Prop := Sm v ∧ ∀ xs, v = .tup xs → (∀ x ∈ xs, RV x) ∧ xs.length ≤ 1000
theorem all_rounds : ∀ {xs : List PV}, (∀ x ∈ xs, RV x) → ∃ bs : List Bool, (∀ (i : Nat) (a b c d e f g h : Option DV) (S : AH), i = 2 → lcGo ckT (.nm i) dYes (dCall d_is_round (dCons (dVar i) dNil)) [a, b, c, d, e, f, g, h] (dit xs) S = .ok (bs.map PV.bl) S) ∧ (bs.all id = true ↔ ∃ rs : List (Int × List Int), xs = rs.map rdV ∧ ∀ r ∈ rs, GoodR r)
  | [], _ => ⟨[], fun i a b c d e f g h S hi => lc_nil trivial, by simp only [List.all_nil, true_iff]; exact ⟨[], rfl, by simp⟩⟩
  | x :: xs, h => by
    obtain ⟨b, e1, e2⟩ := round_eval (h x List.mem_cons_self)
    obtain ⟨bs, e3, e4⟩ := all_rounds (xs := xs) fun y hy => h y (List.mem_cons_of_mem _ hy)
    refine ⟨b :: bs, fun i a b' c d e f g h S hi => ?_, ?_⟩
    · have e3 := fun a b' c d e f g h S => e3 i a b' c d e f g h S hi
      subst hi
      rw [dit_cons, lc_take trivial rfl rfl (y := .bl b) (S2 := S) (by simp [e1]), e3]
      rfl
    · rw [List.all_cons, Bool.and_eq_true, e4]
      show b = true ∧ _ ↔ _
      rw [e2]
      constructor
      · rintro ⟨⟨r, rfl, g⟩, rs, rfl, gs⟩
        refine ⟨r :: rs, rfl, fun q hq => ?_⟩
        rcases List.mem_cons.mp hq with rfl | hq
        · exact g
        · exact gs q hq
      · rintro ⟨rs, e, gs⟩
        cases rs with
        | nil => cases e
        | cons r rs =>
          rw [List.map_cons] at e
          injection e with e5 e6
          exact ⟨⟨r, e5, gs r List.mem_cons_self⟩, rs, e6, fun q hq => gs q (List.mem_cons_of_mem _ hq)⟩
theorem rd_ix {rs : List (Int × List Int)} {k : Nat} (h : k < rs.length) (S : AH) : ixO (.p (.tup (rs.map rdV))) (.p (.int (k : Int))) S = some (.p (rdV (rs.getD k (0, []))), S) := by
  refine ixO_tup (atI_map rdV (atI_nat ?_))
  rw [List.getD_eq_getElem?_getD, List.getElem?_eq_getElem h]; rfl
theorem rd0 (r : Int × List Int) (S : AH) : ixO (.p (rdV r)) (.p (.int 0)) S = some (.p (.int r.1), S) := ixO_tup rfl
theorem rd1 (r : Int × List Int) (S : AH) : ixO (.p (rdV r)) (.p (.int 1)) S = some (.p (tupI r.2), S) := ixO_tup rfl
theorem rd_fst {rs : List (Int × List Int)} {k : Nat} : (rs.getD k (0, [])).1 = (rs.map (·.1)).getD k 0 := by
  rw [List.getD_eq_getElem?_getD, List.getD_eq_getElem?_getD, List.getElem?_map]
  cases rs[k]? <;> rfl
theorem rounds_eval {v s : PV} (h : HRV v) (hs : Sm s) : ∃ b : Bool, (∀ S : AH, d_are_rounds [.p v, .p s] S = .ok (.p (.bl b)) S) ∧ (b = true ↔ RoundsFor v s) := by
  obtain ⟨h1, h2⟩ := h
  have no : (¬ RoundsFor v s) → (∀ S : AH, d_are_rounds [.p v, .p s] S = .ok (.p (.bl false)) S) → ∃ b : Bool, (∀ S : AH, d_are_rounds [.p v, .p s] S = .ok (.p (.bl b)) S) ∧ (b = true ↔ RoundsFor v s) := fun n e => ⟨false, e, by simp [n]⟩
  cases h1 with
  | tup xs =>
    obtain ⟨h3, h4⟩ := h2 xs rfl
    obtain ⟨bs, e1, e2⟩ := all_rounds h3
    have e1 := fun b c d e f g h S => e1 2 (some (.p (.tup xs))) b c d e f g h S rfl
    have hz : (dit xs).length ≤ 16777216 := by rw [dit_len]; omega
    cases q : bs.all id with
    | false =>
      have al : ∀ S : AH, allO [.p (.lst (bs.map PV.bl))] S = some (.p (.bl false), S) := fun S => by rw [allO_lst, q]
      refine no (fun ⟨rs, z, e, _, g⟩ => ?_) fun S => by simp [d_are_rounds, b_are_rounds_, ev_kLc hz, wipeD, e1, al]
      have : bs.all id = true := e2.mpr ⟨rs, PV.tup.inj e, g.g⟩
      rw [this] at q
      cases q
    | true =>
    have al : ∀ S : AH, allO [.p (.lst (bs.map PV.bl))] S = some (.p (.bl true), S) := fun S => by rw [allO_lst, q]
    obtain ⟨rs, rfl, gs⟩ := e2.mp q
    rw [List.length_map] at h4
    have nr : ∀ {P : Prop}, (∀ z, s = .int z → RoundsOK rs z → False) → ¬ RoundsFor (.tup (rs.map rdV)) s := fun n ⟨rs', z, e, es, g⟩ => by
      have e := rdV_map_inj (PV.tup.inj e)
      subst e
      exact n z es g
    have nr := @nr True
    have nr : (∀ z, s = .int z → RoundsOK rs z → False) → ¬ RoundsFor (.tup (rs.map rdV)) s := fun n ⟨rs', z, e, es, g⟩ => by
      have e := rdV_map_inj (PV.tup.inj e)
      subst e
      exact n z es g
    -- the lengths
    have rg : ∀ S : AH, kRng1 [.p (.int ((rs.length : Int) - 1))] S = .ok (rangeI 0 (rs.length - 1), ckT) S := rg_pred rs.length (by omega)
    have lk : ∀ S : AH, ∃ y, forGo ckT (.nm 3) L0_are_rounds (rangeI 0 (rs.length - 1)) [some (.p (.tup (rs.map rdV))), some (.p s), none, none, none, none, none, none] S = if (List.range (rs.length - 1)).all (fun k => decide ((rs.map (·.1)).getD k 0 < (rs.map (·.1)).getD (k + 1) 0)) = true then .nx [some (.p (.tup (rs.map rdV))), some (.p s), none, y, none, none, none, none] S else .rt (.p (.bl false)) S := fun S => by
      have := scan_range (fb := L0_are_rounds) (i := 3) (δ := [some (.p (.tup (rs.map rdV))), some (.p s), none, none, none, none, none, none]) (S := S) (v := .p (.bl false)) (rs.length - 1) 0 (fun k => decide ((rs.map (·.1)).getD k 0 < (rs.map (·.1)).getD (k + 1) 0)) none (fun k hk => by
        have r0 := rd_ix (rs := rs) (k := k) (by omega)
        have r1 : ∀ S : AH, ixO (.p (.tup (rs.map rdV))) (.p (.int ((k : Int) + 1))) S = some (.p (rdV (rs.getD (k + 1) (0, []))), S) := rd_ix (rs := rs) (k := k + 1) (by omega)
        rw [← rd_fst, ← rd_fst]
        generalize rs.getD k (0, []) = ra at *
        generalize rs.getD (k + 1) (0, []) = rb at *
        by_cases hab : ra.1 < rb.1
        · have : ¬ rb.1 ≤ ra.1 := by omega
          simp [L0_are_rounds, r0, r1, rd0, hab, this]
        · have : rb.1 ≤ ra.1 := by omega
          simp [L0_are_rounds, r0, r1, rd0, hab, this])
      exact this
    have kpw := adj_pw (fun a b => a < b) (fun a b c h1 h2 => Int.lt_trans h1 h2) (rs.map (·.1))
    cases qk : (List.range (rs.length - 1)).all (fun k => decide ((rs.map (·.1)).getD k 0 < (rs.map (·.1)).getD (k + 1) 0)) with
    | false =>
      refine no (nr fun z es g => ?_) fun S => ?_
      · have : (List.range (rs.length - 1)).all (fun k => decide ((rs.map (·.1)).getD k 0 < (rs.map (·.1)).getD (k + 1) 0)) = true := List.all_eq_true.mpr fun k hk => by
          have hk := List.mem_range.mp hk
          exact decide_eq_true (kpw.mpr g.k k (by rw [List.length_map]; omega))
        rw [this] at qk
        cases qk
      · obtain ⟨y, lk⟩ := lk S
        rw [qk, if_neg (by decide)] at lk
        simp [d_are_rounds, b_are_rounds_, ev_kLc hz, wipeD, e1, al, rg, lk]
    | true =>
    have hk : (rs.map (·.1)).Pairwise (fun a b => a < b) := kpw.mp fun k hk => by
      have := List.all_eq_true.mp qk k (List.mem_range.mpr (by rw [List.length_map] at hk; omega))
      exact of_decide_eq_true this
    -- how many
    have ln : ∀ (y : Option DV) (S : AH), lcGo ckT (.tp [.nm 4, .nm 5]) dYes (dApp lenO (dCons (dVar 5) dNil)) [some (.p (.tup (rs.map rdV))), some (.p s), none, y, none, none, none, none] (dit (rs.map rdV)) S = .ok ((lensR rs).map PV.int) S := fun y S => by
      rw [lc_mapD rdV (fun r => .int (r.2.length : Int)) rs (fun r _ => ⟨_, rfl, by simp⟩)]
      unfold lensR
      rw [List.map_map]; rfl
    by_cases hn : (lensR rs).sum ≤ 40
    case neg =>
      have hn' : 40 < (lensR rs).sum := by omega
      refine no (nr fun z es g => hn g.n) fun S => ?_
      obtain ⟨y, lk⟩ := lk S
      rw [qk, if_pos rfl] at lk
      simp [d_are_rounds, b_are_rounds_, ev_kLc hz, wipeD, e1, al, rg, lk, ln, sumO_lst, hn']
    case pos =>
    have hn' : ¬ 40 < (lensR rs).sum := by omega
    have fl := flat_len rs
    have so := sor_ok (rs := rs) (fun r hr => ⟨(gs r hr).1, by have := len_le hr; omega⟩) (by omega)
    have sl : (shapeR rs).length ≤ 1000 := by unfold shapeR; rw [List.length_reverse]; omega
    by_cases hsh : ShapeFor (tupI (shapeR rs)) s
    case neg =>
      have sn := shape_no (hv_ints sl) hs hsh
      refine no (nr fun z es g => hsh (by rw [es]; exact g.s)) fun S => ?_
      obtain ⟨y, lk⟩ := lk S
      rw [qk, if_pos rfl] at lk
      simp only [tupI] at so sn
      simp [d_are_rounds, b_are_rounds_, ev_kLc hz, wipeD, e1, al, rg, lk, ln, sumO_lst, hn', so, sn]
    case pos =>
    obtain ⟨z, rfl⟩ : ∃ z, s = .int z := by
      obtain ⟨_, z, _, e, _⟩ := hsh
      exact ⟨z, e⟩
    have sy := shape_yes (hv_ints sl) hs hsh
    have vo := voR_ok sl hsh
    have lv : ∀ (y : Option DV) (S : AH), lcGo ckT (.tp [.nm 7, .nm 5]) dYes (dBin leO (dBin ixO (dVar 5) (dUn negO (dC (.int 1)))) (dBin addO (dBin ixO (dVar 5) (dC (.int 0))) (dCall d_vacancy_of_ring (dCons (dVar 6) (dCons (dVar 1) (dCons (dVar 7) dNil)))))) [some (.p (.tup (rs.map rdV))), some (.p (.int z)), none, y, none, none, some (.p (tupI (shapeR rs))), none] (dit (rs.map rdV)) S = .ok ((rs.map fun r => decide (laI r.2 ≤ hdI r.2 + vcR (shapeR rs) z r.1)).map PV.bl) S := fun y S => by
      rw [lc_mapD rdV (fun r => .bl (decide (laI r.2 ≤ hdI r.2 + vcR (shapeR rs) z r.1))) rs (fun r hr => ⟨_, rfl, by
        have g := (gs r hr).1
        have l := ix_last g
        have f := ix_first g
        simp only [tupI] at vo ⊢
        simp [l, f, vo]⟩)]
      rw [List.map_map]; rfl
    refine ⟨(rs.map fun r => decide (laI r.2 ≤ hdI r.2 + vcR (shapeR rs) z r.1)).all id, fun S => ?_, ?_⟩
    · obtain ⟨y, lk⟩ := lk S
      rw [qk, if_pos rfl] at lk
      simp only [tupI] at so sy lv
      simp [d_are_rounds, b_are_rounds_, ev_kLc hz, wipeD, e1, al, rg, lk, ln, sumO_lst, hn', so, sy, lv, allO_lst, -List.map_map, -List.all_map]
    · rw [List.all_eq_true]
      constructor
      · intro h
        exact ⟨rs, z, rfl, rfl, gs, hk, hn, hsh, fun r hr => of_decide_eq_true (h _ (List.mem_map.mpr ⟨r, hr, rfl⟩))⟩
      · rintro ⟨rs', z', e, es, g⟩ x hx
        have e := rdV_map_inj (PV.tup.inj e)
        subst e
        cases es
        obtain ⟨r, hr, rfl⟩ := List.mem_map.mp hx
        exact decide_eq_true (g.v r hr)
  | non => exact no (fun ⟨r, z, e, _⟩ => by cases e) fun S => by simp [d_are_rounds, b_are_rounds_]
  | bl _ => exact no (fun ⟨r, z, e, _⟩ => by cases e) fun S => by simp [d_are_rounds, b_are_rounds_]
  | int _ => exact no (fun ⟨r, z, e, _⟩ => by cases e) fun S => by simp [d_are_rounds, b_are_rounds_]
  | str _ => exact no (fun ⟨r, z, e, _⟩ => by cases e) fun S => by simp [d_are_rounds, b_are_rounds_]
  | lst _ => exact no (fun ⟨r, z, e, _⟩ => by cases e) fun S => by simp [d_are_rounds, b_are_rounds_]
end DL
namespace DL
open PySem L2
theorem hv_sm {v : PV} (h : Sm v) (hn : ∀ xs, v ≠ .tup xs) : HV v := ⟨h, fun xs e => absurd e (hn xs)⟩
theorem shp_sum : ∀ {sh : List Int}, (∀ i ∈ sh, 1 ≤ i) → (sh.length : Int) ≤ sh.sum
  | [], _ => by simp
  | i :: sh, h => by
    have a := shp_sum (sh := sh) fun j hj => h j (List.mem_cons_of_mem _ hj)
    have b := h i List.mem_cons_self
    rw [List.sum_cons, List.length_cons]
    omega
theorem ones_sum : ∀ n : Nat, (List.replicate n (1 : Int)).sum = n
  | 0 => rfl
  | n + 1 => by rw [List.replicate_succ, List.sum_cons, ones_sum n]; omega
theorem rv_sm {v : PV} (h : Sm v) (hn : ∀ xs, v ≠ .tup xs) : RV v := ⟨h, fun xs e => absurd e (hn xs)⟩
theorem hrv_sm {v : PV} (h : Sm v) (hn : ∀ xs, v ≠ .tup xs) : HRV v := ⟨h, fun xs e => absurd e (hn xs)⟩
theorem rv_tup {xs : List PV} (h : ∀ x ∈ xs, HV x) (hz : xs.length ≤ 1000) : RV (.tup xs) := ⟨.tup _, fun ys e => by cases e; exact ⟨h, hz⟩⟩
theorem hrv_tup {xs : List PV} (h : ∀ x ∈ xs, RV x) (hz : xs.length ≤ 1000) : HRV (.tup xs) := ⟨.tup _, fun ys e => by cases e; exact ⟨h, hz⟩⟩
theorem hrv_one {x : PV} (h : RV x) : HRV (.tup [x]) := hrv_tup (fun y hy => by rcases List.mem_singleton.mp hy with rfl; exact h) (by simp)
theorem rv_two {a b : PV} (ha : HV a) (hb : HV b) : RV (.tup [a, b]) := rv_tup (fun y hy => by
  simp only [List.mem_cons, List.not_mem_nil, or_false] at hy
  rcases hy with rfl | rfl
  · exact ha
  · exact hb) (by simp)
theorem hv_int (i : Int) : HV (.int i) := hv_sm (.int i) (fun xs e => by cases e)
theorem hv_two {a b : PV} (ha : Sm a) (hb : Sm b) : HV (.tup [a, b]) := ⟨.tup _, fun ys e => by
  cases e
  exact ⟨fun y hy => by
    simp only [List.mem_cons, List.not_mem_nil, or_false] at hy
    rcases hy with rfl | rfl
    · exact ha
    · exact hb, by simp⟩⟩
theorem rv_rd {r : Int × List Int} (h : r.2.length ≤ 1000) : RV (rdV r) := rv_two (hv_int _) (hv_ints h)
theorem hrv_rs {rs : List (Int × List Int)} (h : ∀ r ∈ rs, r.2.length ≤ 1000) (hl : rs.length ≤ 1000) : HRV (.tup (rs.map rdV)) := hrv_tup (fun x hx => by
  obtain ⟨r, hr, rfl⟩ := List.mem_map.mp hx
  exact rv_rd (h r hr)) (by rw [List.length_map]; exact hl)
theorem RoundsOK.sh {rs : List (Int × List Int)} {z : Int} (g : RoundsOK rs z) : Shp (shapeR rs) ∧ 2 * (shapeR rs).sum < z ∧ 1 ≤ z ∧ z ≤ 40 := by
  obtain ⟨sh, z', e, es, z1, z2, h1, h2⟩ := g.s
  have e := tupI_inj e
  subst e
  cases es
  exact ⟨h1, h2, z1, z2⟩
theorem rs_len : ∀ {rs : List (Int × List Int)}, (∀ r ∈ rs, GoodR r) → (rs.length : Int) ≤ (lensR rs).sum
  | [], _ => by simp [lensR]
  | r :: rs, h => by
    have a := rs_len (rs := rs) fun q hq => h q (List.mem_cons_of_mem _ hq)
    have b := List.length_pos_iff.mpr (h r List.mem_cons_self).1
    unfold lensR at *
    rw [List.map_cons, List.sum_cons, List.length_cons]
    omega
theorem cut_last {α : Type} {xs : List α} : cutL xs none (some (-1)) = xs.dropLast := by
  unfold cutL
  have e1 : HT.sIx xs.length xs.length (some (-1)) = xs.length - 1 := by
    show (if (-1 : Int) < 0 then ((-1 : Int) + (xs.length : Int)).toNat else min (-1 : Int).toNat xs.length) = _
    rw [if_pos (by decide)]; omega
  have e2 : HT.sIx xs.length 0 none = 0 := rfl
  rw [e1, e2, List.drop_zero, Nat.sub_zero, List.dropLast_eq_take]
@[simp] theorem neO_bl {a b : Bool} {S : AH} : neO (.p (.bl a)) (.p (.bl b)) S = some (.p (.bl (!decide (a = b))), S) := by
  have h1 : SeqAt.shaped (.bool a) = true := rfl
  have h2 : SeqAt.shaped (.bool b) = true := rfl
  unfold neO dataOf
  simp only [PV.data, eqDat, h1, h2, and_self, if_true, Option.map_some, eqv_bl]
theorem seq_step {f g : Sig → AH → Out} {δ δ1 : Sig} {S S1 : AH} {o : Out} (h : f δ S = .nx δ1 S1) (h2 : g δ1 S1 = o) : dSeq f g δ S = o := by
  rw [ev_seq, h]
  exact h2
theorem flat_app (a b : List (Int × List Int)) : flatR (a ++ b) = flatR a ++ flatR b := by
  unfold flatR; rw [List.flatMap_append]
theorem vac_eval {sh : List Int} (h : sh.length ≤ 1000) (z k : Int) (e0 e3 e5 e6 e7 e8 e9 : Option DV) (S : AH) : (dBin subO (dVar 1) (dBin mulO1 (dC (.int 2)) (dApp sumO (dCons (dVal (dLc (dSeqI (dVar 2)) (.nm 7) dYes (dApp minO (dCons (dVar 4) (dCons (dVar 7) dNil))) [7])) dNil)))) [e0, some (.p (.int z)), some (.p (tupI sh)), e3, some (.p (.int k)), e5, e6, e7, e8, e9] S = .ok (.p (.int (vcR sh z k))) S := by
  have hz : (dit (sh.map PV.int)).length ≤ 16777216 := by rw [dit_len, List.length_map]; omega
  have m : (∀ (m : Int) (S : AH), mulO1 (.p (.int 2)) (.p (.int m)) S = some (.p (.int (2 * m)), S)) := fun m S => mulO1_int (mulOk_l (by decide))
  simp [ev_kLc hz, wipeD]
  rw [lc_mapD PV.int (fun p => .int (mn k p)) sh (fun p hp => ⟨_, rfl, by simp [mn]⟩)]
  have e : sh.map (fun p => PV.int (mn k p)) = (sh.map (mn k)).map PV.int := by rw [List.map_map]; rfl
  rw [e]
  simp [-List.map_map, sumO_lst, m, vcR]
theorem are_yes {rs : List (Int × List Int)} {z : Int} (g : RoundsOK rs z) (S : AH) : d_are_rounds [.p (.tup (rs.map rdV)), .p (.int z)] S = .ok (.p (.bl true)) S := by
  have gn := g.n
  have rl := rs_len g.g
  obtain ⟨b, h1, h2⟩ := rounds_eval (v := .tup (rs.map rdV)) (s := .int z) (hrv_rs (fun r hr => by have := len_le hr; omega) (by omega)) (.int z)
  have := h2.mpr ⟨rs, z, rfl, rfl, g⟩
  subst this
  exact h1 S
end DL
namespace DL
open PySem L2
/-! ### angles, walked -/
def LeastT (w : List Int) (D : Nat) : Prop := hiB 0 (trn D w) = true ∧ ∀ j : Nat, j < D → hiB 0 (trn j w) = false
theorem least_min (w : List Int) : ∀ (n : Nat), (∃ d : Nat, d < n ∧ hiB 0 (trn d w) = true) → ∃ D : Nat, D < n ∧ LeastT w D
  | 0, ⟨d, h, _⟩ => by omega
  | n + 1, h => by
    by_cases c : ∃ d : Nat, d < n ∧ hiB 0 (trn d w) = true
    · obtain ⟨D, h1, h2⟩ := least_min w n c
      exact ⟨D, by omega, h2⟩
    · obtain ⟨d, h1, h2⟩ := h
      have : d = n := by
        by_cases q : d < n
        · exact absurd ⟨d, q, h2⟩ c
        · omega
      subst this
      refine ⟨d, by omega, h2, fun j hj => ?_⟩
      cases q : hiB 0 (trn j w) with
      | false => rfl
      | true => exact absurd ⟨j, hj, q⟩ c
theorem least_ex {w : List Int} (h : Ring w) : ∃ D : Nat, D < w.length ∧ LeastT w D := least_min w w.length (turn_high h)
theorem ltx_loop {w : List Int} (h : Ring w) (S : AH) {D : Nat} (hD : LeastT w D) : ∀ (m d : Nat), d + m = D →
    dWhile (dNot (dTru (dCall d_is_high (dCons (dCall d_turned_ring (dCons (dVar 0) (dCons (dVar 1) dNil))) dNil)))) L0_least_turn [some (.p (tupI w)), some (.p (.int (d : Int)))] S = .nx [some (.p (tupI w)), some (.p (.int (D : Int)))] S := by
  intro m
  induction m with
  | zero =>
    intro d e
    have e : d = D := by omega
    subst e
    have t := turned_ok h d
    have i := ishigh_ok (trn_ringW h d)
    rw [hD.1] at i
    generalize tupI (trn d w) = V at *
    generalize tupI w = W at *
    rw [dWhile_eq, show (dNot (dTru (dCall d_is_high (dCons (dCall d_turned_ring (dCons (dVar 0) (dCons (dVar 1) dNil))) dNil)))) [some (.p W), some (.p (.int (d : Int)))] S = .ok false S by simp [t, i], out_ok, if_neg Bool.false_ne_true]
  | succ m ih =>
    intro d e
    have t := turned_ok h d
    have i := ishigh_ok (trn_ringW h d)
    rw [hD.2 d (by omega)] at i
    have h3 := ih (d + 1) (by omega)
    rw [show ((d + 1 : Nat) : Int) = (d : Int) + 1 by omega] at h3
    generalize tupI (trn d w) = V at *
    generalize tupI w = W at *
    rw [dWhile_eq, show (dNot (dTru (dCall d_is_high (dCons (dCall d_turned_ring (dCons (dVar 0) (dCons (dVar 1) dNil))) dNil)))) [some (.p W), some (.p (.int (d : Int)))] S = .ok true S by simp [t, i], out_ok, if_pos rfl, show L0_least_turn [some (.p W), some (.p (.int (d : Int)))] S = .nx [some (.p W), some (.p (.int ((d : Int) + 1)))] S by simp [L0_least_turn]]
    exact h3
theorem ltx_ok {w : List Int} (h : Ring w) {D : Nat} (hD : LeastT w D) (S : AH) : d_least_turn [.p (tupI w)] S = .ok (.p (.int (D : Int))) S := by
  have h3 := ltx_loop h S hD D 0 (by omega)
  have h3 : dWhile _ _ [some (.p (tupI w)), some (.p (.int 0))] S = _ := h3
  generalize tupI w = W at *
  simp [d_least_turn, b_least_turn_, h3]
/-- the strings of the high turning -/
structure Strs (v : List Int) (L : SL) : Prop where
  ki : KI v L
  md : Made v L
  nn : ∀ s ∈ L, 0 ≤ s.2
def keyA (P : SL) : List Int := srtU (P.map (·.1))
def angR (P : SL) (d : Int) : List (Int × List Int) := (keyA P).map fun k => (k, (P.filter fun p => decide (p.1 = k)).map fun p => p.2 + d)
theorem lens_small {v : List Int} {L : SL} (ki : KI v L) (hv : Ring v) : L.length ≤ 19 := by
  have q := ki.q 41 (by omega)
  have up : (L.length : Int) ≤ QS L 41 := by
    have go : ∀ M : SL, (∀ s ∈ M, 1 ≤ s.1) → (M.length : Int) ≤ QS M 41 := by
      intro M
      induction M with
      | nil => intro _; exact Int.le_refl 0
      | cons s M ih =>
        intro hM
        have i := ih fun t ht => hM t (List.mem_cons_of_mem _ ht)
        have j := hM s List.mem_cons_self
        have e : QS (s :: M) 41 = (if s.1 < 41 then s.1 else 41) + QS M 41 := by unfold QS bx; simp
        rw [e, List.length_cons]
        split <;> omega
    exact go L fun s hs => (ki.cr s hs).1
  have := lds_le (l := 41) v 0 hv.b
  have := hv.s
  have := hv.m
  omega
theorem ra_filter {α : Type} {q : Pat} {fc : Sig → AH → Res Bool} {fe : Sig → AH → Res DV} {δ : Sig} {S : AH} {ck : AH → Prop} (hck : ck S) (f : α → PV) (p : α → Bool) (g : α → PV) : ∀ rs : List α, (∀ r ∈ rs, ∃ δ2, q.set (.p (f r)) δ = some δ2 ∧ fc δ2 S = .ok (p r) S ∧ (p r = true → fe δ2 S = .ok (.p (g r)) S)) → lcGo ck q fc fe δ (dit (rs.map f)) S = .ok ((rs.filter p).map g) S
  | [], _ => lc_nil hck
  | r :: rs, h => by
    obtain ⟨δ2, h1, h2, h3⟩ := h r List.mem_cons_self
    have ih := ra_filter hck f p g rs fun y hy => h y (List.mem_cons_of_mem _ hy)
    rw [List.map_cons, dit_cons]
    cases e : p r with
    | true =>
      rw [e] at h2
      rw [lc_take hck h1 h2 (h3 e), ih, List.filter_cons_of_pos e]
      rfl
    | false =>
      rw [e] at h2
      rw [lc_skip hck h1 h2, ih, List.filter_cons_of_neg (by rw [e]; exact Bool.false_ne_true)]
theorem ang_lc {P : SL} (k d : Int) {a V c e f g : Option DV} (S : AH) : lcGo ckT (.tp [(.nm 5), (.nm 7)]) (blOf (dBin eqO (dVar 5) (dVar 4))) (dBin addO (dVar 7) (dVar 1)) [a, some (.p (.int d)), V, c, some (.p (.int k)), e, f, g] (dit (P.map pairP)) S = .ok (((P.filter fun p => decide (p.1 = k)).map fun p => p.2 + d).map PV.int) S := by
  rw [ra_filter trivial pairP (fun p => decide (p.1 = k)) (fun p => .int (p.2 + d)) P fun p hp => ⟨_, rfl, by simp, fun _ => by simp⟩, List.map_map]
  rfl
theorem ang_loop {P : SL} (hz : P.length ≤ 900) (d : Int) (W : Option DV) (S : AH) : ∀ (ks : List Int) (acc : List (Int × List Int)) (d4 d5 d6 d7 : Option DV), acc.length + ks.length ≤ 900 → ∃ e4, forGo ckT (.nm 4) L0_angles (dit (ks.map PV.int)) [W, some (.p (.int d)), some (.p (.tup (P.map pairP))), some (.c S.length), d4, d5, d6, d7] (S ++ [.lst (acc.map rdV)]) = .nx [W, some (.p (.int d)), some (.p (.tup (P.map pairP))), some (.c S.length), e4, d5, d6, d7] (S ++ [.lst ((acc ++ ks.map fun k => (k, (P.filter fun p => decide (p.1 = k)).map fun p => p.2 + d)).map rdV)])
  | [], acc, d4, d5, d6, d7, _ => ⟨d4, by simp⟩
  | k :: ks, acc, d4, d5, d6, d7, h => by
    rw [List.length_cons] at h
    obtain ⟨e4, e⟩ := ang_loop hz d W S ks (acc ++ [(k, (P.filter fun p => decide (p.1 = k)).map fun p => p.2 + d)]) (some (.p (.int k))) d5 d6 d7 (by rw [List.length_append, List.length_singleton]; omega)
    refine ⟨e4, ?_⟩
    have hz2 : (dit (P.map pairP)).length ≤ 16777216 := by rw [dit_len, List.length_map]; omega
    have lc := fun {c e f g : Option DV} (S : AH) => ang_lc (P := P) k d (a := W) (V := some (.p (.tup (P.map pairP)))) (c := c) (e := e) (f := f) (g := g) S
    have ap : ∀ y : PV, appendM (.c S.length) [.p y] (S ++ [.lst (acc.map rdV)]) = some (.p .non, S ++ [.lst (acc.map rdV ++ [y])]) := fun y => append_last (by rw [List.length_map]; omega)
    rw [List.map_cons, dit_cons, for_nm]
    have am : acc.map rdV ++ [.tup [.int k, .tup (((P.filter fun p => decide (p.1 = k)).map fun p => p.2 + d).map PV.int)]] = (acc ++ [(k, (P.filter fun p => decide (p.1 = k)).map fun p => p.2 + d)]).map rdV := by
      rw [List.map_append]
      rfl
    have st : L0_angles ([W, some (.p (.int d)), some (.p (.tup (P.map pairP))), some (.c S.length), d4, d5, d6, d7].set 4 (some (.p (.int k)))) (S ++ [.lst (acc.map rdV)]) = .nx [W, some (.p (.int d)), some (.p (.tup (P.map pairP))), some (.c S.length), some (.p (.int k)), d5, d6, d7] (S ++ [.lst ((acc ++ [(k, (P.filter fun p => decide (p.1 = k)).map fun p => p.2 + d)]).map rdV)]) := by
      rw [← am]
      generalize ((P.filter fun p => decide (p.1 = k)).map fun p => p.2 + d).map PV.int = R at *
      generalize acc.map rdV = A at *
      generalize P.map pairP = PP at *
      simp [L0_angles, ev_kLc hz2, wipeD, lc, ap]
    rw [st, after_nx, List.map_cons, e, List.append_assoc]
    rfl
theorem angles_ok {w : List Int} (h : Ring w) {D : Nat} (hD : LeastT w D) : ∃ L : SL, Strs (trn D w) L ∧ ∀ S, d_angles [.p (tupI w)] S = .ok (.p (.tup ((angR (sortP L) D).map rdV))) S := by
  obtain ⟨L, ⟨k1, k2, k3⟩, hs⟩ := hs_all h hD.1
  refine ⟨L, ⟨k1, k2, k3⟩, fun S => ?_⟩
  have hv := trn_ringW h D
  have lz := lens_small k1 hv
  have pz : (sortP L).length ≤ 19 := by rw [(sortP_perm L).length_eq]; exact lz
  have c := chk_ok h
  have lt := ltx_ok h hD
  generalize sortP L = P at *
  have kz : (keyA P).length ≤ 19 := by
    have go : ∀ (a : Int) (l : List Int), (insU a l).length ≤ l.length + 1 := by
      intro a l
      induction l with
      | nil => simp [insU]
      | cons b r ih =>
        unfold insU
        split
        · simp
        · split
          · simp
          · simp only [List.length_cons]; omega
    have go2 : ∀ l : List Int, (srtU l).length ≤ l.length := by
      intro l
      induction l with
      | nil => simp [srtU]
      | cons a r ih =>
        have := go a (srtU r)
        show (insU a (srtU r)).length ≤ r.length + 1
        omega
    have := go2 (P.map (·.1))
    rw [List.length_map] at this
    unfold keyA
    omega
  obtain ⟨e4, lo⟩ := ang_loop (P := P) (by omega) (D : Int) (some (.p (tupI w))) S (keyA P) [] none none none none (by simp; omega)
  rw [List.nil_append] at lo
  have lc : lcGo ckT (.tp [(.nm 5), (.nm 6)]) dYes (dVar 5) [some (.p (tupI w)), some (.p (.int (D : Int))), some (.p (.tup (P.map pairP))), some (.c S.length), none, none, none, none] (dit (P.map pairP)) (S ++ [.lst []]) = .ok ((P.map (·.1)).map PV.int) (S ++ [.lst []]) := by
    rw [tl_map trivial pairP (fun p => .int p.1) P fun p hp => ⟨_, rfl, by simp⟩, List.map_map]
    rfl
  have su : ∀ S, kAppF ssetU [.p (.lst ((P.map (·.1)).map PV.int))] S = .ok ((keyA P).map PV.int) S := fun S => kAppF_some (ssetU_lst (by rw [List.length_map]; omega))
  have hz2 : (dit (P.map pairP)).length ≤ 16777216 := by rw [dit_len, List.length_map]; omega
  have lo : forGo ckT (.nm 4) L0_angles (dit ((keyA P).map PV.int)) [some (.p (tupI w)), some (.p (.int (D : Int))), some (.p (.tup (P.map pairP))), some (.c S.length), none, none, none, none] (S ++ [.lst []]) = .nx [some (.p (tupI w)), some (.p (.int (D : Int))), some (.p (.tup (P.map pairP))), some (.c S.length), e4, none, none, none] (S ++ [.lst ((angR P D).map rdV)]) := lo
  generalize (angR P D).map rdV = R at *
  generalize (keyA P).map PV.int = K at *
  generalize (P.map (·.1)).map PV.int = LL at *
  generalize P.map pairP = PP at *
  generalize tupI w = W at *
  refine (dDef_ap rfl).trans ?_
  show gcK S false (b_angles_ [some (.p W), none, none, none, none, none, none, none] S) = _
  have body : b_angles_ [some (.p W), none, none, none, none, none, none, none] S = .rt (.p (.tup R)) (S ++ [.lst R]) := by
    unfold b_angles_
    refine seq_st (δ1 := [some (.p W), none, none, none, none, none, none, none]) (S1 := S) (by simp [c]) ?_
    refine seq_st (δ1 := [some (.p W), some (.p (.int (D : Int))), none, none, none, none, none, none]) (S1 := S) (by simp [lt]) ?_
    refine seq_st (δ1 := [some (.p W), some (.p (.int (D : Int))), some (.p (.tup PP)), none, none, none, none, none]) (S1 := S) (by simp [hs]) ?_
    refine seq_st (δ1 := [some (.p W), some (.p (.int (D : Int))), some (.p (.tup PP)), some (.c S.length), none, none, none, none]) (S1 := S ++ [.lst []]) (by simp) ?_
    refine seq_st (δ1 := [some (.p W), some (.p (.int (D : Int))), some (.p (.tup PP)), some (.c S.length), e4, none, none, none]) (S1 := S ++ [.lst R]) (by simp [ev_kLc hz2, wipeD, lc, su, lo]) ?_
    simp [tupleO_last]
  rw [body]
  simp
end DL
namespace DL
open PySem L2
/-! ### the law's own is_high, strings -/
theorem lih_loop (W : Option DV) (S : AH) : ∀ (w : List Int) (r : Int) (x : Option DV), Bits w → (hiB r w = true ∧ ∃ r' x', forGo ckT (.nm 2) L0_law_is_high (dit (w.map PV.int)) [W, some (.p (.int r)), x] S = .nx [W, r', x'] S) ∨ (hiB r w = false ∧ forGo ckT (.nm 2) L0_law_is_high (dit (w.map PV.int)) [W, some (.p (.int r)), x] S = .rt (.p (.bl false)) S)
  | [], r, x, _ => .inl ⟨rfl, _, _, for_nil⟩
  | b :: w, r, x, hw => by
    have m2 : ∀ (i : Int) (S : AH), mulO1 (.p (.int 2)) (.p (.int i)) S = some (.p (.int (2 * i)), S) := fun i S => mulO1_int (mulOk_l (by decide))
    rw [List.map_cons, dit_cons, for_nm]
    by_cases c : r + 1 - 2 * b < 0
    · right
      refine ⟨by unfold hiB; rw [if_pos c], ?_⟩
      have st : L0_law_is_high ([W, some (.p (.int r)), x].set 2 (some (.p (.int b)))) S = .rt (.p (.bl false)) S := by simp [L0_law_is_high, m2, c]
      rw [st]
      rfl
    · have st : L0_law_is_high ([W, some (.p (.int r)), x].set 2 (some (.p (.int b)))) S = .nx [W, some (.p (.int (r + 1 - 2 * b))), some (.p (.int b))] S := by simp [L0_law_is_high, m2, c]
      have eh : hiB r (b :: w) = hiB (r + 1 - 2 * b) w := by
        show (if _ then _ else _) = _
        rw [if_neg c]
      rw [st, after_nx, eh]
      exact lih_loop W S w (r + 1 - 2 * b) _ hw.tl
theorem lih_ok {w : List Int} (h : Bits w) (S : AH) : d_law_is_high [.p (tupI w)] S = .ok (.p (.bl (hiB 0 w))) S := by
  simp only [tupI]
  rcases lih_loop (some (.p (.tup (w.map PV.int)))) S w 0 none h with ⟨e, r', x', lo⟩ | ⟨e, lo⟩
  · rw [e]
    generalize w.map PV.int = V at *
    simp [d_law_is_high, b_law_is_high_, lo]
  · rw [e]
    generalize w.map PV.int = V at *
    simp [d_law_is_high, b_law_is_high_, lo]

theorem bx_cell {M : SL} {S : AH} {n : Nat} (h : S[n]? = some (.lst (M.map pairP))) (k : Int) (hz : M.length ≤ 1000) {q : Nat} {fk : Sig → AH → Res DV} {δ : Sig} (hk : ∀ p : PV, fk (δ.set q (some (.p p))) S = .ok (.p (.int k)) S) (hq : ∀ p : PV, (δ.set q (some (.p p)))[q]? = some (some (.p p))) : lcGo (fun S' => S'[n]? = some (.lst (M.map pairP))) (.nm q) dYes (dApp minO2 (dCons fk (dCons (dBin ixO (dVar q) (dC (.int 0))) dNil))) δ (dit (M.map pairP)) S = .ok ((M.map (·.1)).map fun m => .int (if m < k then m else k)) S := by
  rw [tl_map (by exact h) pairP (fun p => .int (if p.1 < k then p.1 else k)) M fun p hp => ⟨_, rfl, by
    have p0 := pair_0 p
    have hk := hk (pairP p)
    have hq := hq (pairP p)
    generalize δ.set q (some (.p (pairP p))) = δ2 at *
    simp [hk, hq, p0]⟩, List.map_map]
  rfl
theorem sum_QS {M : SL} {k : Int} (S : AH) : sumO [.p (.lst ((M.map (·.1)).map fun m => PV.int (if m < k then m else k)))] S = some (.p (.int (QS M k)), S) := by
  have := sumO_lst (ns := (M.map (·.1)).map fun m => if m < k then m else k) (S := S)
  rw [List.map_map] at this
  exact this
theorem lst_at {M : SL} {i : Nat} {s : Int × Int} {S : AH} {n : Nat} (h : S[n]? = some (.lst (M.map pairP))) (e : M[i]? = some s) : ixO (.c n) (.p (.int (i : Int))) S = some (.p (pairP s), S) := ixO_c h (atI_at (by omega) (by
  rw [Int.toNat_natCast, List.getElem?_map, e]
  rfl))
theorem pair_1 (p : Int × Int) (S : AH) : ixO (.p (pairP p)) (.p (.int 1)) S = some (.p (.int p.2), S) := ixO_tup rfl
theorem lst_inner {M : SL} (hz : M.length ≤ 900) (x : Int) (W T4 : Option DV) (S : AH) : ∀ (r : SL) (k : Nat) (b : Option (Nat × Int)) (d5 d6 d7 : Option DV), M.drop k = r → At M b → ∃ e5 e6,
    forGo ckT (.nm 5) L0_law_strings (rangeI (k : Int) r.length) [W, some (.c S.length), some (.p (.int x)), some (.p (ixV b)), T4, d5, d6, d7] (S ++ [.lst (M.map pairP)]) = .nx [W, some (.c S.length), some (.p (.int x)), some (.p (ixV (bestGo (sing M x) r k b))), T4, e5, e6, d7] (S ++ [.lst (M.map pairP)])
  | [], k, b, d5, d6, d7, _, _ => ⟨d5, d6, by simp [range0, bestGo]⟩
  | s :: r, k, b, d5, d6, d7, hd, hb => by
    have es : M[k]? = some s := by
      have := List.getElem?_drop (xs := M) (i := k) (j := 0)
      rw [hd] at this
      simpa using this.symm
    have hd' : M.drop (k + 1) = r := by
      rw [← List.drop_drop, hd]
      rfl
    have at1 : At M (if sing M x s = true ∧ (b.all fun q => decide (q.2 < s.1)) = true then some (k, s.1) else b) := by
      split
      · intro i l e2
        cases e2
        exact ⟨s.2, es⟩
      · exact hb
    obtain ⟨e5, e6, e⟩ := lst_inner hz x W T4 S r (k + 1) _ (some (.p (.int (k : Int)))) (some (.p (.bl (sing M x s)))) d7 hd' at1
    refine ⟨e5, e6, ?_⟩
    have lg : (S ++ [Cell.lst (M.map pairP)])[S.length]? = some (.lst (M.map pairP)) := last_get
    have hz2 : (dit (M.map pairP)).length ≤ 16777216 := by rw [dit_len, List.length_map]; omega
    have ix := lst_at lg es
    have p0 := pair_0 s
    have p1 := pair_1 s
    have m2 : ∀ (i : Int) (S : AH), mulO1 (.p (.int 2)) (.p (.int i)) S = some (.p (.int (2 * i)), S) := fun i S => mulO1_int (mulOk_l (by decide))
    have lc := bx_cell (M := M) lg s.1 (by omega) (q := 7) (fk := dBin ixO (dBin ixO (dVar 1) (dVar 5)) (dC (.int 0))) (δ := [W, some (.c S.length), some (.p (.int x)), some (.p (ixV b)), T4, some (.p (.int (k : Int))), d6, none]) (fun p => by simp [ix, p0]) (fun p => rfl)
    have sq := sum_QS (M := M) (k := s.1)
    have pb : ∀ i l, b = some (i, l) → ∃ j, ixO (.c S.length) (.p (.int (i : Int))) (S ++ [.lst (M.map pairP)]) = some (.p (pairP (l, j)), S ++ [.lst (M.map pairP)]) := fun i l e2 => by
      obtain ⟨j, e3⟩ := hb i l e2
      exact ⟨j, lst_at lg e3⟩
    rw [List.length_cons, range_succ, for_nm]
    have st : L0_law_strings ([W, some (.c S.length), some (.p (.int x)), some (.p (ixV b)), T4, d5, d6, d7].set 5 (some (.p (.int (k : Int))))) (S ++ [.lst (M.map pairP)]) = .nx [W, some (.c S.length), some (.p (.int x)), some (.p (ixV (if sing M x s = true ∧ (b.all fun q => decide (q.2 < s.1)) = true then some (k, s.1) else b))), T4, some (.p (.int (k : Int))), some (.p (.bl (sing M x s))), d7] (S ++ [.lst (M.map pairP)]) := by
      have sgd : sing M x s = decide (s.2 = x - 2 * QS M s.1) := rfl
      unfold L0_law_strings
      have first : (dSet 6 (dBin eqO (dBin ixO (dBin ixO (dVar 1) (dVar 5)) (dC (.int 1))) (dBin subO (dVar 2) (dBin mulO1 (dC (.int 2)) (dApp sumO (dCons (dVal (dLc (dSeqI (dVar 1)) (.nm 7) dYes (dApp minO2 (dCons (dBin ixO (dBin ixO (dVar 1) (dVar 5)) (dC (.int 0))) (dCons (dBin ixO (dVar 7) (dC (.int 0))) dNil))) [7])) dNil)))))) ([W, some (.c S.length), some (.p (.int x)), some (.p (ixV b)), T4, d5, d6, d7].set 5 (some (.p (.int (k : Int))))) (S ++ [.lst (M.map pairP)]) = .nx [W, some (.c S.length), some (.p (.int x)), some (.p (ixV b)), T4, some (.p (.int (k : Int))), some (.p (.bl (sing M x s))), d7] (S ++ [.lst (M.map pairP)]) := by
        rw [sgd]
        generalize QS M s.1 = qq at *
        simp [ix, p1, ev_kSeqI_c lg, ev_kLc hz2, wipeD, -List.map_map]
        rw [lc]
        simp [sq, m2, -List.map_map]
      refine seq_st first ?_
      generalize sing M x s = sg at *
      cases sg with
      | false => simp
      | true =>
        cases b with
        | none => simp [ixV]
        | some q =>
          obtain ⟨i, l⟩ := q
          obtain ⟨j, pi⟩ := pb i l rfl
          have q0 := pair_0 (l, j)
          have ni : ¬ (i : Int) < 0 := by omega
          by_cases c : l < s.1
          · simp [ixV, ni, ix, p0, pi, q0, c]
          · simp [ixV, ni, ix, p0, pi, q0, c]
    rw [st, after_nx, show (k : Int) + 1 = ((k + 1 : Nat) : Int) by omega]
    exact e
/-- what the law's own step makes -/
def lawM (M : SL) (x : Int) : SL := match bestGo (sing M x) M 0 none with
  | none => M ++ [(1, x + 1 - 2 * (QS M 1 + 1))]
  | some (i, l) => M.eraseIdx i ++ [(l + 1, x + 1 - 2 * (QS M (l + 1) + 1))]
theorem lawM_step {M : SL} {x : Int} (h1 : ∀ s ∈ M, 1 ≤ s.1) : ∃ m, Step1 M x (lawM M x) m := by
  have mx := (bestGo_max (sing M x) M 0 none).1
  have pp := bestGo_p (sing M x) M M 0 none rfl (fun i l e => by cases e)
  cases hb : bestGo (sing M x) M 0 none with
  | none =>
    have no : ∀ s ∈ M, sing M x s = false := fun s hs => by
      cases q : sing M x s with
      | false => rfl
      | true =>
        obtain ⟨i, l, e1, _⟩ := mx s hs q
        rw [hb] at e1
        cases e1
    have e1 : lawM M x = M ++ [(1, x + 1 - 2 * (QS M 1 + 1))] := by unfold lawM; rw [hb]
    refine ⟨0, Int.le_refl 0, fun k hk => ?_, .inl ⟨rfl, no, ?_⟩⟩
    · rw [e1, QS_snoc]
      split <;> split <;> omega
    · rw [e1]
      exact List.perm_append_comm
  | some q =>
    obtain ⟨i, l⟩ := q
    obtain ⟨j, ej, pj⟩ := pp i l hb
    have sj : (l, j) ∈ M := List.mem_of_getElem? ej
    have jv : j = x - 2 * QS M l := by simpa [sing] using pj
    have l1 := h1 _ sj
    have e1 : lawM M x = M.eraseIdx i ++ [(l + 1, x + 1 - 2 * (QS M (l + 1) + 1))] := by unfold lawM; rw [hb]
    have pe := (set_perm (z := (l, j)) ej).2
    refine ⟨l, by simp at l1; omega, fun k hk => ?_, .inr ⟨M.eraseIdx i, ?_, fun s hs sg => ?_, ?_⟩⟩
    · have c : QS M k = (if l < k then l else k) + QS (M.eraseIdx i) k := by
        rw [QS_perm pe k]
        unfold QS bx
        simp
      rw [e1, QS_snoc, c]
      by_cases c1 : l < k <;> by_cases c2 : l + 1 < k
      all_goals simp only [c1, c2, if_true, if_false]
      all_goals first | omega | (have := c1; have := c2; split <;> omega)
    · rw [← jv]
      exact pe
    · obtain ⟨i', l', e2, e3⟩ := mx s hs sg
      rw [hb] at e2
      cases e2
      exact e3
    · rw [e1]
      exact List.perm_append_comm
theorem map_eraseIdx {α β : Type} (f : α → β) : ∀ (M : List α) (i : Nat), (M.map f).eraseIdx i = (M.eraseIdx i).map f
  | [], _ => rfl
  | _ :: _, 0 => rfl
  | a :: M, i + 1 => by
    show f a :: (M.map f).eraseIdx i = f a :: (M.eraseIdx i).map f
    rw [map_eraseIdx f M i]
theorem lst_turn {M : SL} (hz : M.length ≤ 800) {w : List Int} {k : Nat} (hk : k < w.length) (hw : w[k]? = some 1) (S : AH) (d3 d4 d5 d6 d7 : Option DV) : ∃ e3 e4 e5 e6, L1_law_strings [some (.p (tupI w)), some (.c S.length), some (.p (.int (k : Int))), d3, d4, d5, d6, d7] (S ++ [.lst (M.map pairP)]) = .nx [some (.p (tupI w)), some (.c S.length), some (.p (.int (k : Int))), e3, e4, e5, e6, d7] (S ++ [.lst ((lawM M k).map pairP)]) := by
  obtain ⟨e5, e6, lo⟩ := lst_inner (M := M) (by omega) (k : Int) (some (.p (tupI w))) (some (.p (.int 1))) S M 0 none d5 d6 d7 rfl (at_none _)
  have lo : forGo ckT (.nm 5) L0_law_strings (rangeI 0 M.length) [some (.p (tupI w)), some (.c S.length), some (.p (.int (k : Int))), some (.p (.int (-1))), some (.p (.int 1)), d5, d6, d7] (S ++ [.lst (M.map pairP)]) = _ := lo
  have iw : ∀ S, ixO (.p (tupI w)) (.p (.int (k : Int))) S = some (.p (.int 1), S) := fun S => ixO_tup (atI_at (by omega) (by
    rw [Int.toNat_natCast, List.getElem?_map, hw]
    rfl))
  have lg : (S ++ [Cell.lst (M.map pairP)])[S.length]? = some (.lst (M.map pairP)) := last_get
  have ln : lenO [.c S.length] (S ++ [.lst (M.map pairP)]) = some (.p (.int (M.length : Int)), S ++ [.lst (M.map pairP)]) := by
    rw [lenO_c lg, List.length_map]
  have rg := rg_len M.length (by omega)
  have m2 : ∀ (i : Int) (S : AH), mulO1 (.p (.int 2)) (.p (.int i)) S = some (.p (.int (2 * i)), S) := fun i S => mulO1_int (mulOk_l (by decide))
  have pp := bestGo_p (sing M (k : Int)) M M 0 none rfl (fun i l e => by cases e)
  -- the end: a string (kk, 0) put behind R, its rigging set
  have tail : ∀ (R : SL) (kk : Int) (c3 c5 c6 : Option DV), R.length ≤ 800 → dSeq (dDrop (dMeth appendM (dVar 1) (dCons (dTup (dCons (dVar 4) (dCons (dC (.int 0)) dNil))) dNil)))
    (dSub (dTup (dCons (dVar 4) (dCons (dBin subO (dBin addO (dVar 2) (dC (.int 1))) (dBin mulO1 (dC (.int 2)) (dApp sumO (dCons (dVal (dLc (dSeqI (dVar 1)) (.nm 7) dYes (dApp minO2 (dCons (dVar 4) (dCons (dBin ixO (dVar 7) (dC (.int 0))) dNil))) [7])) dNil)))) dNil))) (dVar 1) (dUn negO (dC (.int 1)))) [some (.p (tupI w)), some (.c S.length), some (.p (.int (k : Int))), c3, some (.p (.int kk)), c5, c6, d7] (S ++ [.lst (R.map pairP)]) = .nx [some (.p (tupI w)), some (.c S.length), some (.p (.int (k : Int))), c3, some (.p (.int kk)), c5, c6, d7] (S ++ [.lst ((R ++ [(kk, (k : Int) + 1 - 2 * QS (R ++ [(kk, 0)]) kk)]).map pairP)]) := fun R kk c3 c5 c6 hR => by
    have ap : appendM (.c S.length) [.p (.tup [.int kk, .int 0])] (S ++ [.lst (R.map pairP)]) = some (.p .non, S ++ [.lst ((R ++ [(kk, 0)]).map pairP)]) := by
      rw [append_last (by rw [List.length_map]; omega), List.map_append]
      rfl
    have lg2 : (S ++ [Cell.lst ((R ++ [(kk, 0)]).map pairP)])[S.length]? = some (.lst ((R ++ [(kk, 0)]).map pairP)) := last_get
    have hz2 : (dit ((R ++ [(kk, (0 : Int))]).map pairP)).length ≤ 16777216 := by rw [dit_len, List.length_map, List.length_append]; simp; omega
    have lc := bx_cell (M := R ++ [(kk, 0)]) lg2 kk (by simp; omega) (q := 7) (fk := dVar 4) (δ := [some (.p (tupI w)), some (.c S.length), some (.p (.int (k : Int))), c3, some (.p (.int kk)), c5, c6, none]) (fun p => by simp) (fun p => rfl)
    have sq := sum_QS (M := R ++ [(kk, 0)]) (k := kk)
    have sx : ∀ v : Int, setIx (.c S.length) (.p (.int (-1))) (.p (.tup [.int kk, .int v])) (S ++ [.lst ((R ++ [(kk, 0)]).map pairP)]) = some (S ++ [.lst ((R ++ [(kk, v)]).map pairP)]) := fun v => by
      unfold setIx
      simp only [lg2]
      have hx : ixN ((R ++ [(kk, (0 : Int))]).map pairP).length (-1) = some R.length := by
        unfold ixN
        simp
        omega
      rw [hx]
      simp [pairP]
    generalize hq : QS (R ++ [(kk, 0)]) kk = qq at *
    have sx := sx ((k : Int) + 1 - 2 * qq)
    refine seq_st (δ1 := [some (.p (tupI w)), some (.c S.length), some (.p (.int (k : Int))), c3, some (.p (.int kk)), c5, c6, d7]) (S1 := S ++ [.lst ((R ++ [(kk, 0)]).map pairP)]) ?_ ?_
    · generalize (R ++ [(kk, (0 : Int))]).map pairP = RR at *
      generalize tupI w = W at *
      generalize R.map pairP = R0 at *
      simp [ap]
    · generalize (R ++ [(kk, (k : Int) + 1 - 2 * qq)]).map pairP = R2 at *
      generalize tupI w = W at *
      simp [ev_kSeqI_c lg2, ev_kLc hz2, wipeD, -List.map_map, -List.map_append]
      rw [lc]
      simp [sq, m2, -List.map_map, -List.map_append, ev_jSub3 sx]
  unfold L1_law_strings
  have cond : (blOf (dBin eqO (dBin ixO (dVar 0) (dVar 2)) (dC (.int 1)))) [some (.p (tupI w)), some (.c S.length), some (.p (.int (k : Int))), d3, d4, d5, d6, d7] (S ++ [.lst (M.map pairP)]) = .ok true (S ++ [.lst (M.map pairP)]) := by
    generalize tupI w = W at *
    simp [iw]
  cases hb : bestGo (sing M (k : Int)) M 0 none with
  | none =>
    rw [hb] at lo
    have e1 : lawM M k = M ++ [(1, (k : Int) + 1 - 2 * QS (M ++ [(1, 0)]) 1)] := by
      unfold lawM
      rw [hb, QS_snoc]
      simp
    rw [e1]
    refine ⟨some (.p (.int (-1))), some (.p (.int 1)), e5, e6, ?_⟩
    rw [ev_if, cond, out_ok, ev_jIf_t]
    refine seq_st (δ1 := [some (.p (tupI w)), some (.c S.length), some (.p (.int (k : Int))), some (.p (.int (-1))), some (.p (.int 1)), d5, d6, d7]) (S1 := S ++ [.lst (M.map pairP)]) (by simp; exact ev_jAsg rfl) ?_
    refine seq_st (δ1 := [some (.p (tupI w)), some (.c S.length), some (.p (.int (k : Int))), some (.p (.int (-1))), some (.p (.int 1)), e5, e6, d7]) (S1 := S ++ [.lst (M.map pairP)]) ?_ ?_
    · generalize tupI w = W at *
      generalize M.map pairP = MM at *
      simp [ln, rg]
      exact lo
    refine seq_st (δ1 := [some (.p (tupI w)), some (.c S.length), some (.p (.int (k : Int))), some (.p (.int (-1))), some (.p (.int 1)), e5, e6, d7]) (S1 := S ++ [.lst (M.map pairP)]) (by simp) ?_
    exact tail M 1 _ _ _ hz
  | some q =>
    obtain ⟨i, l⟩ := q
    rw [hb] at lo
    obtain ⟨j, ej, pj⟩ := pp i l hb
    have hi : i < M.length := (List.getElem?_eq_some_iff.mp ej).1
    have pe := (set_perm (z := (l, j)) ej).2
    have e1 : lawM M k = M.eraseIdx i ++ [(l + 1, (k : Int) + 1 - 2 * QS (M.eraseIdx i ++ [(l + 1, 0)]) (l + 1))] := by
      have c : QS M (l + 1) = l + QS (M.eraseIdx i) (l + 1) := by
        rw [QS_perm pe (l + 1)]
        unfold QS bx
        simp
        omega
      unfold lawM
      rw [hb, QS_snoc, if_neg (by omega)]
      show _ ++ [(l + 1, (k : Int) + 1 - 2 * (QS M (l + 1) + 1))] = _
      rw [c, show (k : Int) + 1 - 2 * (l + QS (M.eraseIdx i) (l + 1) + 1) = (k : Int) + 1 - 2 * (QS (M.eraseIdx i) (l + 1) + (l + 1)) by omega]
    rw [e1]
    have po : popM (.c S.length) [.p (.int (i : Int))] (S ++ [.lst (M.map pairP)]) = some (.p (pairP (l, j)), S ++ [.lst ((M.eraseIdx i).map pairP)]) := by
      have e2 : (M.map pairP)[i]? = some (pairP (l, j)) := by rw [List.getElem?_map, ej]; rfl
      unfold popM
      simp only [lg]
      rw [if_pos (by omega), Int.toNat_natCast, e2]
      rw [map_eraseIdx]
      rw [List.set_append_right _ _ (Nat.le_refl _), Nat.sub_self]
      rfl
    have p0 := pair_0 (l, j)
    have ni : ¬ (i : Int) < 0 := by omega
    refine ⟨some (.p (.int (i : Int))), some (.p (.int (l + 1))), e5, e6, ?_⟩
    rw [ev_if, cond, out_ok, ev_jIf_t]
    refine seq_st (δ1 := [some (.p (tupI w)), some (.c S.length), some (.p (.int (k : Int))), some (.p (.int (-1))), some (.p (.int 1)), d5, d6, d7]) (S1 := S ++ [.lst (M.map pairP)]) (by simp; exact ev_jAsg rfl) ?_
    refine seq_st (δ1 := [some (.p (tupI w)), some (.c S.length), some (.p (.int (k : Int))), some (.p (.int (i : Int))), some (.p (.int 1)), e5, e6, d7]) (S1 := S ++ [.lst (M.map pairP)]) ?_ ?_
    · generalize tupI w = W at *
      generalize M.map pairP = MM at *
      simp [ln, rg]
      exact lo
    refine seq_st (δ1 := [some (.p (tupI w)), some (.c S.length), some (.p (.int (k : Int))), some (.p (.int (i : Int))), some (.p (.int (l + 1))), e5, e6, d7]) (S1 := S ++ [.lst ((M.eraseIdx i).map pairP)]) ?_ ?_
    · generalize tupI w = W at *
      generalize (M.eraseIdx i).map pairP = ME at *
      generalize M.map pairP = MM at *
      simp [ni, po, p0]
    exact tail (M.eraseIdx i) (l + 1) _ _ _ (by rw [List.length_eraseIdx]; split <;> omega)
end DL
namespace DL
open PySem L2
/-! ### the law's own strings, all turns; its angles -/
theorem lawM_len (M : SL) (x : Int) : (lawM M x).length ≤ M.length + 1 := by
  unfold lawM
  split
  · simp
  · rw [List.length_append, List.length_eraseIdx]
    simp only [List.length_singleton]
    split <;> omega
theorem lst_loop {w : List Int} (hb : Bits w) (S : AH) : ∀ (r : List Int) (k : Nat) (M : SL) (d2 d3 d4 d5 d6 : Option DV), w.drop k = r → k + r.length = w.length → w.length ≤ 700 → M.length ≤ k → Made (w.take k) M → ∃ M' e2 e3 e4 e5 e6, Made w M' ∧ M'.length ≤ w.length ∧
    forGo ckT (.nm 2) L1_law_strings (rangeI (k : Int) r.length) [some (.p (tupI w)), some (.c S.length), d2, d3, d4, d5, d6, none] (S ++ [.lst (M.map pairP)]) = .nx [some (.p (tupI w)), some (.c S.length), e2, e3, e4, e5, e6, none] (S ++ [.lst (M'.map pairP)])
  | [], k, M, d2, d3, d4, d5, d6, _, hk, hz, hl, hm => by
    have e : k = w.length := by simpa using hk
    subst e
    rw [List.take_length] at hm
    exact ⟨M, d2, d3, d4, d5, d6, hm, hl, by simp [range0]⟩
  | b :: r, k, M, d2, d3, d4, d5, d6, hd, hk, hz, hl, hm => by
    rw [List.length_cons] at hk
    have ek : w[k]? = some b := by
      have := List.getElem?_drop (xs := w) (i := k) (j := 0)
      rw [hd] at this
      simpa using this.symm
    have hlt : k < w.length := by omega
    have hd' : w.drop (k + 1) = r := by
      rw [← List.drop_drop, hd]
      rfl
    have tk : w.take (k + 1) = w.take k ++ [b] := by
      rw [List.take_add_one, ek]
      rfl
    have tl : ((w.take k).length : Int) = k := by rw [List.length_take]; omega
    rw [List.length_cons, range_succ, for_nm]
    rcases hb b (List.mem_of_getElem? ek) with rfl | rfl
    · obtain ⟨M', e2, e3, e4, e5, e6, h1, h2, h3⟩ := lst_loop hb S r (k + 1) M (some (.p (.int (k : Int)))) d3 d4 d5 d6 hd' (by omega) hz (by omega) (by rw [tk]; exact .zero hm)
      refine ⟨M', e2, e3, e4, e5, e6, h1, h2, ?_⟩
      have iw : ∀ S, ixO (.p (tupI w)) (.p (.int (k : Int))) S = some (.p (.int 0), S) := fun S => ixO_tup (atI_at (by omega) (by
        rw [Int.toNat_natCast, List.getElem?_map, ek]
        rfl))
      have st : L1_law_strings ([some (.p (tupI w)), some (.c S.length), d2, d3, d4, d5, d6, none].set 2 (some (.p (.int (k : Int))))) (S ++ [.lst (M.map pairP)]) = .nx [some (.p (tupI w)), some (.c S.length), some (.p (.int (k : Int))), d3, d4, d5, d6, none] (S ++ [.lst (M.map pairP)]) := by
        generalize tupI w = W at *
        generalize M.map pairP = MM at *
        unfold L1_law_strings
        rw [ev_if]
        simp [iw]
      rw [st, after_nx, show (k : Int) + 1 = ((k + 1 : Nat) : Int) by omega]
      exact h3
    · obtain ⟨m, stp⟩ := lawM_step (M := M) (x := (k : Int)) (made_pos hm)
      have hm' : Made (w.take (k + 1)) (lawM M k) := by
        rw [tk]
        exact .one hm (by rw [tl]; exact stp)
      have ll := lawM_len M k
      obtain ⟨c3, c4, c5, c6, st⟩ := lst_turn (M := M) (by omega) hlt ek S d3 d4 d5 d6 none
      obtain ⟨M', e2, e3, e4, e5, e6, h1, h2, h3⟩ := lst_loop hb S r (k + 1) (lawM M k) (some (.p (.int (k : Int)))) c3 c4 c5 c6 hd' (by omega) hz (by omega) hm'
      refine ⟨M', e2, e3, e4, e5, e6, h1, h2, ?_⟩
      have st : L1_law_strings ([some (.p (tupI w)), some (.c S.length), d2, d3, d4, d5, d6, none].set 2 (some (.p (.int (k : Int))))) (S ++ [.lst (M.map pairP)]) = _ := st
      rw [st, after_nx, show (k : Int) + 1 = ((k + 1 : Nat) : Int) by omega]
      exact h3
theorem lstr_ok {w : List Int} {L : SL} (h : Ring w) (hL : Made w L) (S : AH) : d_law_strings [.p (tupI w)] S = .ok (.p (.lst ((sortP L).map pairP))) S := by
  have hm := h.m
  obtain ⟨M, e2, e3, e4, e5, e6, h1, h2, lo⟩ := lst_loop h.b S w 0 [] none none none none none rfl (by omega) (by omega) (Nat.le_refl _) .nil
  have es : sortP M = sortP L := sortP_only ((sortP_perm M).trans (made_uniq h1 hL)) (sortP_sorted M)
  have lo : forGo ckT (.nm 2) L1_law_strings (rangeI 0 w.length) [some (.p (tupI w)), some (.c S.length), none, none, none, none, none, none] (S ++ [.lst []]) = .nx [some (.p (tupI w)), some (.c S.length), e2, e3, e4, e5, e6, none] (S ++ [.lst (M.map pairP)]) := lo
  have rg := rg_len w.length (by omega)
  have so : kAppF sortedF2 [.c S.length] (S ++ [.lst (M.map pairP)]) = .ok ((sortP M).map pairP) (S ++ [.lst (M.map pairP)]) := kAppF_some (by
    have lg : (S ++ [Cell.lst (M.map pairP)])[S.length]? = some (.lst (M.map pairP)) := last_get
    have li : litems (.c S.length) (S ++ [Cell.lst (M.map pairP)]) = some (M.map pairP) := by simp [litems, lg]
    unfold sortedF2
    simp only [li, pairsP_map])
  have ln : ∀ S, lenO [.p (tupI w)] S = some (.p (.int (w.length : Int)), S) := fun S => by simp [tupI]
  rw [← es]
  refine (dDef_ap rfl).trans ?_
  show gcK S false (b_law_strings_ [some (.p (tupI w)), none, none, none, none, none, none, none] S) = _
  generalize (sortP M).map pairP = R at *
  generalize M.map pairP = MM at *
  generalize tupI w = W at *
  have body : b_law_strings_ [some (.p W), none, none, none, none, none, none, none] S = .rt (.p (.lst R)) (S ++ [.lst MM]) := by
    unfold b_law_strings_
    refine seq_st (δ1 := [some (.p W), some (.c S.length), none, none, none, none, none, none]) (S1 := S ++ [.lst []]) (by simp) ?_
    refine seq_st (δ1 := [some (.p W), some (.c S.length), e2, e3, e4, e5, e6, none]) (S1 := S ++ [.lst MM]) (by simp [ln, rg, lo]) ?_
    simp [so]
  rw [body]
  simp
end DL
namespace DL
open PySem L2
/-! ### the law's own angles, lengths, vacancy -/
theorem key_len (P : SL) : (keyA P).length ≤ P.length := by
  have go : ∀ (a : Int) (l : List Int), (insU a l).length ≤ l.length + 1 := by
    intro a l
    induction l with
    | nil => simp [insU]
    | cons b r ih =>
      unfold insU
      split
      · simp
      · split
        · simp
        · simp only [List.length_cons]; omega
  have go2 : ∀ l : List Int, (srtU l).length ≤ l.length := by
    intro l
    induction l with
    | nil => simp [srtU]
    | cons a r ih =>
      have := go a (srtU r)
      show (insU a (srtU r)).length ≤ r.length + 1
      omega
  have := go2 (P.map (·.1))
  rw [List.length_map] at this
  exact this
theorem lang_while {w : List Int} (h : Ring w) (S : AH) {D : Nat} (hD : LeastT w D) (x2 x3 x4 x5 x6 : Option DV) : ∀ (m d : Nat), d + m = D →
    dWhile (dNot (dTru (dCall d_law_is_high (dCons (dCall d_law_turned (dCons (dVar 0) (dCons (dVar 1) dNil))) dNil)))) L0_law_angles [some (.p (tupI w)), some (.p (.int (d : Int))), x2, x3, x4, x5, x6] S = .nx [some (.p (tupI w)), some (.p (.int (D : Int))), x2, x3, x4, x5, x6] S := by
  have hm := h.m
  intro m
  induction m with
  | zero =>
    intro d e
    have e : d = D := by omega
    subst e
    have t := lturned_ok h.p (by omega) (d : Int)
    have i := lih_ok (trn_ringW h d).b
    rw [hD.1] at i
    generalize tupI (trn d w) = V at *
    generalize tupI w = W at *
    rw [dWhile_eq, show (dNot (dTru (dCall d_law_is_high (dCons (dCall d_law_turned (dCons (dVar 0) (dCons (dVar 1) dNil))) dNil)))) [some (.p W), some (.p (.int (d : Int))), x2, x3, x4, x5, x6] S = .ok false S by simp [t, i], out_ok, if_neg Bool.false_ne_true]
  | succ m ih =>
    intro d e
    have t := lturned_ok h.p (by omega) (d : Int)
    have i := lih_ok (trn_ringW h d).b
    rw [hD.2 d (by omega)] at i
    have h3 := ih (d + 1) (by omega)
    rw [show ((d + 1 : Nat) : Int) = (d : Int) + 1 by omega] at h3
    generalize tupI (trn d w) = V at *
    generalize tupI w = W at *
    rw [dWhile_eq, show (dNot (dTru (dCall d_law_is_high (dCons (dCall d_law_turned (dCons (dVar 0) (dCons (dVar 1) dNil))) dNil)))) [some (.p W), some (.p (.int (d : Int))), x2, x3, x4, x5, x6] S = .ok true S by simp [t, i], out_ok, if_pos rfl, show L0_law_angles [some (.p W), some (.p (.int (d : Int))), x2, x3, x4, x5, x6] S = .nx [some (.p W), some (.p (.int ((d : Int) + 1))), x2, x3, x4, x5, x6] S by simp [L0_law_angles]]
    exact h3
theorem lang_lc {P : SL} (k d : Int) {a V c e f : Option DV} (S : AH) : lcGo ckT (.tp [(.nm 6), (.nm 5)]) (blOf (dBin eqO (dVar 6) (dVar 4))) (dBin addO (dVar 5) (dVar 1)) [a, some (.p (.int d)), V, c, some (.p (.int k)), e, f] (dit (P.map pairP)) S = .ok (((P.filter fun p => decide (p.1 = k)).map fun p => p.2 + d).map PV.int) S := by
  rw [ra_filter trivial pairP (fun p => decide (p.1 = k)) (fun p => .int (p.2 + d)) P fun p hp => ⟨_, rfl, by simp, fun _ => by simp⟩, List.map_map]
  rfl
theorem langles_ok {w : List Int} {L : SL} (h : Ring w) {D : Nat} (hD : LeastT w D) (hL : Strs (trn D w) L) (S : AH) : d_law_angles [.p (tupI w)] S = .ok (.p (.tup ((angR (sortP L) D).map rdV))) S := by
  have hm := h.m
  have hv := trn_ringW h D
  have lz := lens_small hL.ki hv
  have pz : (sortP L).length ≤ 19 := by rw [(sortP_perm L).length_eq]; exact lz
  have st := lstr_ok hv hL.md
  have tu := lturned_ok h.p (by omega) (D : Int)
  have wh := lang_while h S hD none none none none none D 0 (by omega)
  have wh : dWhile _ _ [some (.p (tupI w)), some (.p (.int 0)), none, none, none, none, none] S = _ := wh
  generalize sortP L = P at *
  have kz := key_len P
  have hz2 : (dit (P.map pairP)).length ≤ 16777216 := by rw [dit_len, List.length_map]; omega
  have hz3 : (dit ((keyA P).map PV.int)).length ≤ 16777216 := by rw [dit_len, List.length_map]; omega
  have l1 : lcGo ckT (.tp [(.nm 4), (.nm 5)]) dYes (dVar 4) [some (.p (tupI w)), some (.p (.int (D : Int))), some (.p (.lst (P.map pairP))), none, none, none, none] (dit (P.map pairP)) S = .ok ((P.map (·.1)).map PV.int) S := by
    rw [tl_map trivial pairP (fun p => .int p.1) P fun p hp => ⟨_, rfl, by simp⟩, List.map_map]
    rfl
  have su : ∀ S, kAppF ssetU [.p (.lst ((P.map (·.1)).map PV.int))] S = .ok ((keyA P).map PV.int) S := fun S => kAppF_some (ssetU_lst (by rw [List.length_map]; omega))
  have l2 : lcGo ckT (.nm 4) dYes (dTup (dCons (dVar 4) (dCons (dApp tupleO (dCons (dVal (dLc (dSeqI (dVar 2)) (.tp [(.nm 6), (.nm 5)]) (blOf (dBin eqO (dVar 6) (dVar 4))) (dBin addO (dVar 5) (dVar 1)) [6, 5])) dNil)) dNil))) [some (.p (tupI w)), some (.p (.int (D : Int))), some (.p (.lst (P.map pairP))), some (.p (.lst ((keyA P).map PV.int))), none, none, none] (dit ((keyA P).map PV.int)) S = .ok ((angR P D).map rdV) S := by
    rw [tl_map trivial PV.int (fun k => rdV (k, (P.filter fun p => decide (p.1 = k)).map fun p => p.2 + (D : Int))) (keyA P) fun k hk => ⟨_, rfl, by
      have lc := fun {e f : Option DV} (S : AH) => lang_lc (P := P) k D (a := some (.p (tupI w))) (V := some (.p (.lst (P.map pairP)))) (c := some (.p (.lst ((keyA P).map PV.int)))) (e := e) (f := f) S
      unfold rdV tupI
      generalize ((P.filter fun p => decide (p.1 = k)).map fun p => p.2 + (D : Int)).map PV.int = R at *
      generalize P.map pairP = PP at *
      simp [ev_kLc hz2, wipeD, lc]⟩]
    unfold angR
    rw [List.map_map]
    rfl
  refine (dDef_ap rfl).trans ?_
  show gcK S false (b_law_angles_ [some (.p (tupI w)), none, none, none, none, none, none] S) = _
  generalize (angR P D).map rdV = R at *
  generalize (keyA P).map PV.int = K at *
  generalize (P.map (·.1)).map PV.int = LL at *
  generalize P.map pairP = PP at *
  generalize tupI w = W at *
  generalize tupI (trn D w) = V at *
  have body : b_law_angles_ [some (.p W), none, none, none, none, none, none] S = .rt (.p (.tup R)) S := by
    unfold b_law_angles_
    refine seq_st (δ1 := [some (.p W), some (.p (.int 0)), none, none, none, none, none]) (S1 := S) (by simp) ?_
    refine seq_st wh ?_
    refine seq_st (δ1 := [some (.p W), some (.p (.int (D : Int))), some (.p (.lst PP)), none, none, none, none]) (S1 := S) (by simp [tu, st]) ?_
    refine seq_st (δ1 := [some (.p W), some (.p (.int (D : Int))), some (.p (.lst PP)), some (.p (.lst K)), none, none, none]) (S1 := S) (by simp [ev_kLc hz2, wipeD, l1, su]) ?_
    simp only [ev_ret]
    simp [ev_kLc hz3, wipeD, l2]
  rw [body]
  simp
theorem lvac_ok {sh : List Int} (h : sh.length ≤ 1000) (z k : Int) (S : AH) : d_law_vacancy [.p (tupI sh), .p (.int z), .p (.int k)] S = .ok (.p (.int (vcR sh z k))) S := by
  have hz : (dit (sh.map PV.int)).length ≤ 16777216 := by rw [dit_len, List.length_map]; omega
  have lc : lcGo ckT (.nm 3) dYes (dApp minO2 (dCons (dVar 2) (dCons (dVar 3) dNil))) [some (.p (tupI sh)), some (.p (.int z)), some (.p (.int k)), none] (dit (sh.map PV.int)) S = .ok ((sh.map (mn k)).map PV.int) S := by
    rw [tl_map trivial PV.int (fun p => .int (mn k p)) sh fun p hp => ⟨_, rfl, by
      unfold mn
      simp⟩, List.map_map]
    rfl
  have su : sumO [.p (.lst ((sh.map (mn k)).map PV.int))] S = some (.p (.int (sh.map (mn k)).sum), S) := sumO_lst
  have m2 : ∀ (i : Int) (S : AH), mulO1 (.p (.int 2)) (.p (.int i)) S = some (.p (.int (2 * i)), S) := fun i S => mulO1_int (mulOk_l (by decide))
  unfold vcR
  generalize (sh.map (mn k)).sum = q at *
  generalize (sh.map (mn k)).map PV.int = R at *
  simp only [tupI] at *
  generalize sh.map PV.int = W at *
  simp [d_law_vacancy, b_law_vacancy_, ev_kLc hz, wipeD, lc, su, m2]
theorem llen_loop (e0 : Option DV) (S : AH) : ∀ (rs : List (Int × List Int)) (acc : List Int) (y z : Option DV), (∀ r ∈ rs, r.2.length ≤ 1000) → acc.length + (flatR rs).length ≤ 1000 → ∃ y' z', forGo ckT (.tp [(.nm 2), (.nm 3)]) L0_law_lengths (dit (rs.map rdV)) [e0, some (.p (.lst (acc.map PV.int))), y, z, none] S = .nx [e0, some (.p (.lst ((shapeR rs ++ acc).map PV.int))), y', z', none] S
  | [], acc, y, z, _, _ => ⟨y, z, by simp [shapeR, flatR]⟩
  | r :: rs, acc, y, z, h, hl => by
    have ef : (flatR (r :: rs)).length = r.2.length + (flatR rs).length := by simp [flatR]
    obtain ⟨y', z', e⟩ := llen_loop e0 S rs (List.replicate r.2.length r.1 ++ acc) (some (.p (.int r.1))) (some (.p (tupI r.2))) (fun q hq => h q (List.mem_cons_of_mem _ hq)) (by simp; omega)
    refine ⟨y', z', ?_⟩
    have es : shapeR rs ++ (List.replicate r.2.length r.1 ++ acc) = shapeR (r :: rs) ++ acc := by
      unfold shapeR flatR
      simp
    rw [es] at e
    have hr := h r List.mem_cons_self
    have hz : (dit (r.2.map PV.int)).length ≤ 16777216 := by rw [dit_len, List.length_map]; omega
    have lc : lcGo ckT (.nm 4) dYes (dVar 2) [e0, some (.p (.lst (acc.map PV.int))), some (.p (.int r.1)), some (.p (.tup (r.2.map PV.int))), none] (dit (r.2.map PV.int)) S = .ok ((List.replicate r.2.length r.1).map PV.int) S := by
      rw [tl_map trivial PV.int (fun _ => .int r.1) r.2 fun p hp => ⟨_, rfl, by simp⟩, List.map_replicate]
      congr 1
      exact List.map_const' ..
    have ad : ∀ S, addO (.p (.lst ((List.replicate r.2.length r.1).map PV.int))) (.p (.lst (acc.map PV.int))) S = some (.p (.lst ((List.replicate r.2.length r.1 ++ acc).map PV.int)), S) := fun S => by
      rw [List.map_append]
      exact addO_lst (by rw [List.length_map, List.length_map, List.length_replicate]; omega)
    have st : L0_law_lengths [e0, some (.p (.lst (acc.map PV.int))), some (.p (.int r.1)), some (.p (.tup (r.2.map PV.int))), none] S = .nx [e0, some (.p (.lst ((List.replicate r.2.length r.1 ++ acc).map PV.int))), some (.p (.int r.1)), some (.p (.tup (r.2.map PV.int))), none] S := by
      generalize (List.replicate r.2.length r.1 ++ acc).map PV.int = B at *
      generalize (List.replicate r.2.length r.1).map PV.int = A at *
      generalize acc.map PV.int = C at *
      generalize r.2.map PV.int = R at *
      simp [L0_law_lengths, ev_kLc hz, wipeD, lc, ad]
    rw [List.map_cons, dit_cons, for_cons (δ1 := [e0, some (.p (.lst (acc.map PV.int))), some (.p (.int r.1)), some (.p (.tup (r.2.map PV.int))), none]) rfl, st, after_nx]
    exact e
theorem llen_ok {rs : List (Int × List Int)} (h : ∀ r ∈ rs, r.2.length ≤ 1000) (hl : (flatR rs).length ≤ 1000) (S : AH) : d_law_lengths [.p (.tup (rs.map rdV))] S = .ok (.p (tupI (shapeR rs))) S := by
  obtain ⟨y', z', e⟩ := llen_loop (some (.p (.tup (rs.map rdV)))) S rs [] none none h (by simpa using hl)
  rw [List.append_nil] at e
  have e : forGo ckT (.tp [(.nm 2), (.nm 3)]) L0_law_lengths (dit (rs.map rdV)) [some (.p (.tup (rs.map rdV))), some (.p (.lst [])), none, none, none] S = _ := e
  generalize rs.map rdV = R at *
  unfold tupI
  generalize (shapeR rs).map PV.int = Q at *
  simp [d_law_lengths, b_law_lengths_, e]
end DL
namespace DL
open PySem L2
/-! ### angles are rounds -/
theorem cnt_flat (c : Int → Nat) (a : Int) : ∀ ks : List Int, ks.Nodup → (ks.flatMap fun k => List.replicate (c k) k).count a = if a ∈ ks then c a else 0
  | [], _ => rfl
  | k :: ks, h => by
    have h' := List.nodup_cons.mp h
    rw [List.flatMap_cons, List.count_append, cnt_flat c a ks h'.2, List.count_replicate]
    by_cases e : k = a
    · subst e
      simp [h'.1]
    · have e' : ¬ a = k := fun q => e q.symm
      simp [e, e']
theorem cnt_keys (a : Int) : ∀ P : SL, (P.map (·.1)).count a = (P.filter fun p => decide (p.1 = a)).length
  | [] => rfl
  | p :: P => by
    rw [List.map_cons, List.count_cons, cnt_keys a P, List.filter_cons]
    by_cases e : p.1 = a <;> simp [e]
theorem keyA_mem {P : SL} {k : Int} : k ∈ keyA P ↔ ∃ p ∈ P, p.1 = k := by
  unfold keyA
  rw [srtU_mem, List.mem_map]
theorem flat_angR (P : SL) (d : Int) : flatR (angR P d) = (keyA P).flatMap fun k => List.replicate (P.filter fun p => decide (p.1 = k)).length k := by
  unfold flatR angR
  rw [List.flatMap_map]
  simp
theorem flat_sorted (c : Int → Nat) : ∀ ks : List Int, ks.Pairwise (· < ·) → (ks.flatMap fun k => List.replicate (c k) k).Pairwise (· ≤ ·)
  | [], _ => .nil
  | k :: ks, h => by
    have h' := List.pairwise_cons.mp h
    rw [List.flatMap_cons, List.pairwise_append]
    refine ⟨?_, flat_sorted c ks h'.2, fun x hx y hy => ?_⟩
    · rw [List.pairwise_replicate]
      right
      exact Int.le_refl k
    · have ex := List.eq_of_mem_replicate hx
      obtain ⟨q, hq, hy⟩ := List.mem_flatMap.mp hy
      have ey := List.eq_of_mem_replicate hy
      have := h'.1 q hq
      omega
theorem flat_ang {P : SL} (hs : P.Pairwise leP) (d : Int) : flatR (angR P d) = P.map (·.1) := by
  rw [flat_angR]
  have hk : (keyA P).Pairwise (· < ·) := srtU_asc _
  have nd : (keyA P).Nodup := hk.imp fun {a b} h => by omega
  have pm : ((keyA P).flatMap fun k => List.replicate (P.filter fun p => decide (p.1 = k)).length k).Perm (P.map (·.1)) := by
    refine List.perm_iff_count.mpr fun a => ?_
    rw [cnt_flat (fun k => (P.filter fun p => decide (p.1 = k)).length) a _ nd, cnt_keys]
    split
    · rfl
    · rename_i h
      rw [List.filter_eq_nil_iff.mpr]
      · rfl
      · intro p hp q
        exact h (keyA_mem.mpr ⟨p, hp, by simpa using q⟩)
  have s2 : (P.map (·.1)).Pairwise (· ≤ ·) := by
    rw [List.pairwise_map]
    exact hs.imp fun {a b} q => by
      unfold leP at q
      omega
  exact pm.eq_of_pairwise (fun a b _ _ h1 h2 => Int.le_antisymm h1 h2) (flat_sorted _ _ hk) s2
theorem shape_ang (L : SL) (d : Int) : shapeR (angR (sortP L) d) = lensOf L := by
  unfold shapeR lensOf
  rw [flat_ang (sortP_sorted L)]
theorem ang_good {P : SL} (hs : P.Pairwise leP) (d : Int) : ∀ r ∈ angR P d, GoodR r := fun r hr => by
  obtain ⟨k, hk, rfl⟩ := List.mem_map.mp hr
  obtain ⟨p, hp, e⟩ := keyA_mem.mp hk
  refine ⟨?_, ?_⟩
  · show (P.filter fun p => decide (p.1 = k)).map (fun p => p.2 + d) ≠ []
    intro q
    have := List.map_eq_nil_iff.mp q
    have mem : p ∈ P.filter fun p => decide (p.1 = k) := List.mem_filter.mpr ⟨hp, by simpa using e⟩
    rw [this] at mem
    cases mem
  · show ((P.filter fun p => decide (p.1 = k)).map fun p => p.2 + d).Pairwise (fun a b => a ≤ b)
    rw [List.pairwise_map]
    have f : (P.filter fun p => decide (p.1 = k)).Pairwise leP := hs.filter _
    refine List.Pairwise.imp_of_mem ?_ f
    intro a b ha hb q
    have ea := (List.mem_filter.mp ha).2
    have eb := (List.mem_filter.mp hb).2
    simp at ea eb
    unfold leP at q
    omega
theorem bx_all {ls : List Int} {k : Int} : (∀ m ∈ ls, m ≤ k) → bx ls k = ls.sum := by
  induction ls with
  | nil => intro _; rfl
  | cons m ls ih =>
    intro h
    have i := ih fun x hx => h x (List.mem_cons_of_mem _ hx)
    have j := h m List.mem_cons_self
    unfold bx at *
    rw [List.map_cons, List.sum_cons, List.sum_cons, i]
    split <;> omega
theorem le_sum : ∀ {ls : List Int}, (∀ m ∈ ls, 1 ≤ m) → ∀ m ∈ ls, m ≤ ls.sum
  | a :: ls, h, m, hm => by
    have s0 := shp_sum (sh := ls) fun x hx => h x (List.mem_cons_of_mem _ hx)
    have a0 := h a List.mem_cons_self
    rw [List.sum_cons]
    rcases List.mem_cons.mp hm with rfl | hm
    · omega
    · have := le_sum (fun x hx => h x (List.mem_cons_of_mem _ hx)) m hm
      omega
theorem mn_bx (ls : List Int) (k : Int) : (ls.map (mn k)).sum = bx ls k := rfl
theorem ang_ok {v : List Int} {L : SL} (hv : Ring v) (hh : Hi 0 v) (hL : Strs v L) (d : Int) : RoundsOK (angR (sortP L) d) v.length := by
  obtain ⟨f1, f2, f3⟩ := lens_facts hL.ki hv hh
  have hs := sortP_sorted L
  have hm := hv.m
  have hp := hv.p
  have h2 := hv.s
  have es := shape_ang L d
  have ls0 := shp_sum f2
  have ssum : (lensOf L).sum ≤ v.sum := by
    have b := bx_all (ls := lensOf L) (k := ((lensOf L).sum.toNat : Int)) fun m hm => by
      have := le_sum f2 m hm
      omega
    rw [← b, f3, en_high (by omega) hv hh]
    exact lds_le v 0 hv.b
  refine ⟨ang_good hs d, ?_, ?_, ?_, ?_⟩
  · unfold angR
    rw [List.map_map]
    have e : (fun r : Int × List Int => r.1) ∘ (fun k : Int => (k, ((sortP L).filter fun p => decide (p.1 = k)).map fun p => p.2 + d)) = id := rfl
    show ((keyA (sortP L)).map _).Pairwise _
    rw [e, List.map_id]
    exact srtU_asc _
  · rw [← flat_len, flat_ang hs, List.length_map, (sortP_perm L).length_eq]
    have := lens_small hL.ki hv
    omega
  · rw [es]
    exact ⟨lensOf L, v.length, rfl, rfl, by omega, by omega, ⟨f2, f1.imp fun {a b} q => q⟩, by omega⟩
  · intro r hr
    have gr := ang_good hs d r hr
    obtain ⟨k, hk, rfl⟩ := List.mem_map.mp hr
    have bd : ∀ a ∈ (((sortP L).filter fun p => decide (p.1 = k)).map fun p => p.2 + d), d ≤ a ∧ a ≤ d + (v.length - 2 * QS L k) := fun a ha => by
      obtain ⟨p, hp, rfl⟩ := List.mem_map.mp ha
      obtain ⟨hp1, hp2⟩ := List.mem_filter.mp hp
      have hpL := (sortP_perm L).mem_iff.mp hp1
      have n0 := hL.nn p hpL
      have n1 := (hL.ki.cr p hpL).2
      have e : p.1 = k := by simpa using hp2
      rw [e] at n1
      omega
    have vc : vcR (shapeR (angR (sortP L) d)) v.length k = v.length - 2 * QS L k := by
      rw [es]
      unfold vcR
      rw [mn_bx]
      have p : ((sortP L).map (·.1)).reverse.Perm (L.map (·.1)) := (List.reverse_perm _).trans ((sortP_perm L).map _)
      have : bx (lensOf L) k = QS L k := perm_sumI (p.map _)
      rw [this]
    show laI (((sortP L).filter fun p => decide (p.1 = k)).map fun p => p.2 + d) ≤ hdI (((sortP L).filter fun p => decide (p.1 = k)).map fun p => p.2 + d) + vcR (shapeR (angR (sortP L) d)) v.length k
    rw [vc]
    have ne : (((sortP L).filter fun p => decide (p.1 = k)).map fun p => p.2 + d) ≠ [] := gr.1
    generalize (((sortP L).filter fun p => decide (p.1 = k)).map fun p => p.2 + d) = R at *
    have lp := List.length_pos_iff.mpr ne
    have m1 : hdI R ∈ R := by
      unfold hdI
      rw [List.getD, List.getElem?_eq_getElem lp]
      exact List.getElem_mem _
    have m2 : laI R ∈ R := by
      unfold laI
      rw [List.getD, List.getElem?_eq_getElem (by omega)]
      exact List.getElem_mem _
    have b1 := bd _ m1
    have b2 := bd _ m2
    omega
end DL
namespace DL
open PySem L2
/-! ### plain answers stay -/
def Pn : Nat → PV → Prop
  | _, .int _ => True
  | _, .non => True
  | _, .str _ => True
  | n + 1, .tup xs => xs.length ≤ 20000 ∧ ∀ x ∈ xs, Pn n x
  | _, _ => False
theorem pn_int {n : Nat} {i : Int} : Pn n (.int i) := by cases n <;> trivial
theorem pn_non {n : Nat} : Pn n .non := by cases n <;> trivial
theorem pn_str {n : Nat} {x : Str} : Pn n (.str x) := by cases n <;> trivial
theorem pn_ints {n : Nat} {w : List Int} (h : w.length ≤ 20000) : Pn (n + 1) (tupI w) := ⟨by rw [List.length_map]; exact h, fun x hx => by
  obtain ⟨i, _, rfl⟩ := List.mem_map.mp hx
  exact pn_int⟩
theorem isO_str {x : Str} {S : AH} : isO (.p (.str x)) (.p .non) S = some (.p (.bl false), S) := rfl
theorem plain_pn : ∀ {n : Nat} {v : PV}, Pn n v → ∀ k, n < k → ∀ S : AH, d_law_plain k [.p v] S = .ok (.p v) S := by
  intro n
  induction n with
  | zero =>
    intro v h k hk S
    obtain ⟨k, rfl⟩ : ∃ j, k = j + 1 := ⟨k - 1, by omega⟩
    cases v with
    | int i => simp [d_law_plain]
    | non => simp [d_law_plain]
    | str x => simp [d_law_plain, isO_str]
    | _ => exact absurd h (by simp [Pn])
  | succ n ih =>
    intro v h k hk S
    obtain ⟨k, rfl⟩ : ∃ j, k = j + 1 := ⟨k - 1, by omega⟩
    cases v with
    | int i => simp [d_law_plain]
    | non => simp [d_law_plain]
    | str x => simp [d_law_plain, isO_str]
    | tup xs =>
      obtain ⟨hz, hx⟩ := h
      have hz2 : (dit xs).length ≤ 16777216 := by rw [dit_len]; omega
      have q : ∀ (V : DV) (x : Option DV) (S : AH), lcGo ckT (.nm 1) dYes (dCall (d_law_plain k) (dCons (dVar 1) dNil)) [some V, x] (dit xs) S = .ok xs S := fun V x0 S => by
        rw [lc_map trivial id (fun x q => by
          have := ih (hx x q) k (by omega)
          exact ⟨_, rfl, by simp [this]⟩), List.map_id]
      rw [d_law_plain]
      generalize d_law_plain k = F at *
      simp [ev_kLc hz2, wipeD, q]
    | _ => exact absurd h (by simp [Pn])
end DL
namespace DL
open PySem L2
theorem pn_ang {rs : List (Int × List Int)} (h : ∀ r ∈ rs, r.2.length ≤ 1000) (hl : rs.length ≤ 1000) : Pn 3 (.tup (rs.map rdV)) := ⟨by rw [List.length_map]; omega, fun x hx => by
  obtain ⟨r, hr, rfl⟩ := List.mem_map.mp hx
  refine ⟨by simp, fun y hy => ?_⟩
  rcases List.mem_cons.mp hy with rfl | hy
  · exact pn_int
  · have := List.mem_singleton.mp hy
    subst this
    exact pn_ints (by have := h r hr; omega)⟩
theorem fit_ang (rs : List (Int × List Int)) : (PV.tup (rs.map rdV)).fit 3 := fun x hx => by
  obtain ⟨r, hr, rfl⟩ := List.mem_map.mp hx
  intro y hy
  rcases List.mem_cons.mp hy with rfl | hy
  · trivial
  · have := List.mem_singleton.mp hy
    subst this
    exact fit_tupI r.2
theorem rs_bd {rs : List (Int × List Int)} {z : Int} (g : RoundsOK rs z) : (∀ r ∈ rs, r.2.length ≤ 1000) ∧ rs.length ≤ 1000 ∧ (flatR rs).length ≤ 1000 := by
  have n := g.n
  refine ⟨fun r hr => ?_, ?_, ?_⟩
  · have := len_le hr
    omega
  · have := rs_len g.g
    omega
  · have := flat_len rs
    omega
/-- angles, the program's and the law's, are one -/
theorem both_ang {w : List Int} (h : Ring w) : ∃ rs, RoundsOK rs w.length ∧ ShpOf w (shapeR rs) ∧ (∀ S, d_angles [.p (tupI w)] S = .ok (.p (.tup (rs.map rdV))) S) ∧ (∀ S, d_law_angles [.p (tupI w)] S = .ok (.p (.tup (rs.map rdV))) S) := by
  obtain ⟨D, dl, hD⟩ := least_ex h
  obtain ⟨L, hL, e1⟩ := angles_ok h hD
  have hv := trn_ringW h D
  have hh := hiB0.mp hD.1
  have ok := ang_ok hv hh hL D
  rw [trn_len h.p] at ok
  obtain ⟨f1, f2, f3⟩ := lens_facts hL.ki hv hh
  refine ⟨angR (sortP L) D, ok, ?_, e1, fun S => langles_ok h hD hL S⟩
  rw [shape_ang]
  exact ⟨f1, f2, fun k => by rw [f3 k, trn_en (by omega) h]⟩
theorem l0_loop {sh : List Int} {W : DV} {n : Nat} (h : sh.length ≤ 1000) (hs : ShapeFor (tupI sh) (.int n)) (hl : ∀ S, lenO [W] S = some (.p (.int n), S)) (e0 e1 e3 e6 e7 : Option DV) (S : AH) : ∀ (ks : List Int) (x : Option DV), ∃ x', forGo ckT (.nm 5) L0_law (dit (ks.map PV.int)) [e0, e1, some W, e3, some (.p (tupI sh)), x, e6, e7] S = .nx [e0, e1, some W, e3, some (.p (tupI sh)), x', e6, e7] S
  | [], x => ⟨x, for_nil⟩
  | k :: ks, x => by
    obtain ⟨x', e⟩ := l0_loop h hs hl e0 e1 e3 e6 e7 S ks (some (.p (.int k)))
    refine ⟨x', ?_⟩
    have v1 := voR_ok h hs k
    have v2 := lvac_ok h n k
    have p := plain_int 7
    rw [List.map_cons, dit_cons, for_nm]
    have st : L0_law ([e0, e1, some W, e3, some (.p (tupI sh)), x, e6, e7].set 5 (some (.p (.int k)))) S = .nx [e0, e1, some W, e3, some (.p (tupI sh)), some (.p (.int k)), e6, e7] S := by
      generalize vcR sh n k = q at *
      generalize tupI sh = SH at *
      simp [L0_law, v1, v2, p, hl]
    rw [st, after_nx]
    exact e
theorem l1_loop {w : List Int} (h : Ring w) (e0 e1 e3 e4 e5 : Option DV) (S : AH) : ∀ (m k : Nat) (x y : Option DV), ∃ x' y', forGo ckT (.nm 6) L1_law (rangeI (k : Int) m) [e0, e1, some (.p (tupI w)), e3, e4, e5, x, y] S = .nx [e0, e1, some (.p (tupI w)), e3, e4, e5, x', y'] S
  | 0, k, x, y => ⟨x, y, by simp [range0]⟩
  | m + 1, k, x, y => by
    obtain ⟨x', y', e⟩ := l1_loop h e0 e1 e3 e4 e5 S m (k + 1) (some (.p (.int (k : Int)))) (some (.p (tupI (trn k w))))
    refine ⟨x', y', ?_⟩
    have tu := lturned_ok h.p (by have := h.m; omega) (k : Int)
    have hr := trn_ringW h k
    have hi := lih_ok hr.b
    obtain ⟨rs, ok, sp, a1, a2⟩ := both_ang hr
    obtain ⟨b1, b2, b3⟩ := rs_bd ok
    have p := plain_pn (pn_ang b1 b2) 8 (by omega)
    have ne := fun S => neO_self (S := S) (fit_ang rs) (by omega)
    rw [range_succ, for_nm]
    have st : L1_law ([e0, e1, some (.p (tupI w)), e3, e4, e5, x, y].set 6 (some (.p (.int (k : Int))))) S = .nx [e0, e1, some (.p (tupI w)), e3, e4, e5, some (.p (.int (k : Int))), some (.p (tupI (trn k w)))] S := by
      generalize hiB 0 (trn k w) = hb at *
      generalize rs.map rdV = R at *
      generalize tupI (trn k w) = V at *
      generalize tupI w = W at *
      unfold L1_law
      refine seq_st (δ1 := [e0, e1, some (.p W), e3, e4, e5, some (.p (.int (k : Int))), some (.p V)]) (S1 := S) (by simp [tu]) ?_
      cases hb with
      | false => simp [hi]
      | true => simp [hi, a1, a2, p, ne]
    rw [st, after_nx, show (k : Int) + 1 = ((k + 1 : Nat) : Int) by omega]
    exact e
theorem law_true : ∀ ns : List Int, ns.length ≤ 63 → ∃ S, d_law [.p (.fro (ns.map PV.int))] [] = .ok (.p (.bl true)) S := fun ns _ => by
  obtain ⟨a, b, e0⟩ := state_ok ns
  obtain ⟨w, c1, hc1, hw, e1⟩ := lring_ok ⟨a, b, rfl⟩
  obtain ⟨rs, ok, sp, a1, a2⟩ := both_ang hw
  obtain ⟨b1, b2, b3⟩ := rs_bd ok
  have p := plain_pn (pn_ang b1 b2) 8 (by omega)
  have ne := fun S => neO_self (S := S) (fit_ang rs) (by omega)
  have ar := are_yes ok
  have ll := llen_ok b1 b3
  have ls := lshape_ok hw sp
  have shz : (shapeR rs).length ≤ 1000 := by unfold shapeR; rw [List.length_reverse]; exact b3
  have ish := shape_yes (hv_ints shz) (.int w.length) ok.s
  have nes : ∀ S, neO (.p (tupI (shapeR rs))) (.p (tupI (shapeR rs))) S = some (.p (.bl false), S) := fun S => neO_self (n := 1) (fit_tupI (shapeR rs)) (by decide)
  obtain ⟨v, c2, hc2, b4, t2⟩ := take_ok hc1 (m := 20) [] (by omega) (by omega)
  have lw : ∀ S, lenO [.p (tupI w)] S = some (.p (.int w.length), S) := fun S => by
    show some (DV.p (.int ((w.map PV.int).length : Nat)), S) = _
    rw [List.length_map]
  obtain ⟨f5, lo1⟩ := l0_loop shz ok.s lw (some (.p (.fro (ns.map PV.int)))) (some (.c 0)) (some (.p (.tup (rs.map rdV)))) none none [c2] [0, 1, 2, 5, 50, 1 + v] none
  obtain ⟨f6, f7, lo2⟩ := l1_loop hw (some (.p (.fro (ns.map PV.int)))) (some (.c 0)) (some (.p (.tup (rs.map rdV)))) (some (.p (tupI (shapeR rs)))) f5 [c2] w.length 0 none none
  have lo2 : forGo ckT (.nm 6) L1_law (rangeI 0 w.length) _ _ = _ := lo2
  have wm := hw.m
  have rg := rg_len w.length (by omega)
  refine ⟨[c2].take 0, ?_⟩
  refine (dDef_ap rfl).trans ?_
  show gcK [] false (b_law_ [some (.p (.fro (ns.map PV.int))), none, none, none, none, none, none, none] []) = _
  have body : b_law_ [some (.p (.fro (ns.map PV.int))), none, none, none, none, none, none, none] [] = .rt (.p (.bl true)) [c2] := by
    unfold b_law_
    generalize ns.map PV.int = NS at *
    generalize rs.map rdV = R at *
    generalize tupI (shapeR rs) = SH at *
    generalize tupI w = W at *
    refine seq_st (δ1 := [some (.p (.fro NS)), some (.c 0), none, none, none, none, none, none]) (S1 := [.lst [.int a, .int b]]) (by simp [e0]) ?_
    refine seq_st (δ1 := [some (.p (.fro NS)), some (.c 0), some (.p W), none, none, none, none, none]) (S1 := [c1]) (by simp [e1]) ?_
    refine seq_st (δ1 := [some (.p (.fro NS)), some (.c 0), some (.p W), some (.p (.tup R)), none, none, none, none]) (S1 := [c1]) (by simp [a2]) ?_
    refine seq_st (δ1 := [some (.p (.fro NS)), some (.c 0), some (.p W), some (.p (.tup R)), none, none, none, none]) (S1 := [c1]) (by simp [a1, p, ne, lw, ar]) ?_
    refine seq_st (δ1 := [some (.p (.fro NS)), some (.c 0), some (.p W), some (.p (.tup R)), some (.p SH), none, none, none]) (S1 := [c1]) (by simp [ll]) ?_
    refine seq_st (δ1 := [some (.p (.fro NS)), some (.c 0), some (.p W), some (.p (.tup R)), some (.p SH), none, none, none]) (S1 := [c1]) (by simp [ls, nes, lw, ish]) ?_
    refine seq_st (δ1 := [some (.p (.fro NS)), some (.c 0), some (.p W), some (.p (.tup R)), some (.p SH), f5, none, none]) (S1 := [c2]) (by simp [t2]; exact lo1) ?_
    refine seq_st (δ1 := [some (.p (.fro NS)), some (.c 0), some (.p W), some (.p (.tup R)), some (.p SH), f5, f6, f7]) (S1 := [c2]) (by simp [lw, rg]; exact lo2) ?_
    simp
  rw [body, gc_rt (by simp)]
  rfl
end DL
namespace DL
open PySem PySem.Spec PyProof.Rows L2
theorem law_mk {l : PySem.W.OpenLaw} {w : World} {K : PySem.W.Frag} {mg : Str → Option Value} {fa : Addr} (T : Txt l.prog K mg) (hfa : mg "law" = some (.ref fa)) (bl : ∀ (s : Shared) (v : Value), BindsTo s T.d_law ⟨[v], []⟩ [("script", v)]) :
    ∃ fd : FuncData, (∀ (s : Shared) (v : Value), BindsTo s fd ⟨[v], []⟩ [("script", v)]) ∧ ∀ base : Heap, FnOk l.prog w K mg base (L2.CX l.prog w) 10 fa fd ["script"] (spLawD K) := by
  have e := hfa.symm.trans T.m_law
  cases e
  exact ⟨T.d_law, bl, fun base => (ok_law T).imp fun vs H Q E h => law_end law_true h⟩
end DL
open PySem PySem.W PyProof.Rows
set_option maxRecDepth 100000 in
set_option maxHeartbeats 0 in
theorem PySem.Challenge.cw_carrierroads_k63_angles_of_rings_holds : PySem.Challenge.rw_carrierroads_k63_angles_of_rings.Holds := by
  w_on; o_law; k_head; (case hw => w_witness2)
  k_fill
  refine DL.walkD (l := PySem.Challenge.rw_carrierroads_k63_angles_of_rings) (k := 10) rfl rfl ⟨rfl, by decide, by decide⟩ (fun w h Y => PySem.W.kIn_of Y) ?F
  case F =>
    intro w mg fa h KX G hmg
    refine' DL.law_mk (DL.txt_mk KX G ?a1_is_integer ?l1_is_integer ?c1_is_integer ?k1_is_integer ?a1_is_partition ?l1_is_partition ?c1_is_partition ?k1_is_partition ?a1_is_shape ?l1_is_shape ?c1_is_shape ?k1_is_shape ?a1_boxes_to ?l1_boxes_to ?c1_boxes_to ?k1_boxes_to ?a1_check_shape ?l1_check_shape ?c1_check_shape ?k1_check_shape ?a1_vacancy_of_ring ?l1_vacancy_of_ring ?c1_vacancy_of_ring ?k1_vacancy_of_ring ?a1_is_round ?l1_is_round ?c1_is_round ?k1_is_round ?a1_shape_of_rounds ?l1_shape_of_rounds ?c1_shape_of_rounds ?k1_shape_of_rounds ?a1_are_rounds ?l1_are_rounds ?c1_are_rounds ?k1_are_rounds ?a1_is_ring ?l1_is_ring ?c1_is_ring ?k1_is_ring ?a1_check_ring ?l1_check_ring ?c1_check_ring ?k1_check_ring ?a1_turned_ring ?l1_turned_ring ?c1_turned_ring ?k1_turned_ring ?a1_is_high ?l1_is_high ?c1_is_high ?k1_is_high ?a1_least_turn ?l1_least_turn ?c1_least_turn ?k1_least_turn ?a1_vacancy ?l1_vacancy ?c1_vacancy ?k1_vacancy ?a1_lengths_in ?l1_lengths_in ?c1_lengths_in ?k1_lengths_in ?a1_chosen_for ?l1_chosen_for ?c1_chosen_for ?k1_chosen_for ?a1_grown ?l1_grown ?c1_grown ?k1_grown ?a1_lists_of ?l1_lists_of ?c1_lists_of ?k1_lists_of ?a1_high_strings ?l1_high_strings ?c1_high_strings ?k1_high_strings ?a1_angles ?l1_angles ?c1_angles ?k1_angles ?a1_law_state ?l1_law_state ?c1_law_state ?k1_law_state ?a1_law_take ?l1_law_take ?c1_law_take ?k1_law_take ?a1_law_plain ?l1_law_plain ?c1_law_plain ?k1_law_plain ?a1_law_ring ?l1_law_ring ?c1_law_ring ?k1_law_ring ?a1_law_turned ?l1_law_turned ?c1_law_turned ?k1_law_turned ?a1_law_is_high ?l1_law_is_high ?c1_law_is_high ?k1_law_is_high ?a1_law_shape ?l1_law_shape ?c1_law_shape ?k1_law_shape ?a1_law_vacancy ?l1_law_vacancy ?c1_law_vacancy ?k1_law_vacancy ?a1_law_strings ?l1_law_strings ?c1_law_strings ?k1_law_strings ?a1_law_angles ?l1_law_angles ?c1_law_angles ?k1_law_angles ?a1_law_lengths ?l1_law_lengths ?c1_law_lengths ?k1_law_lengths ?a1_law ?l1_law ?c1_law ?k1_law ?z1_abs ?z1_all ?z1_bool ?z1_int ?z1_isinstance ?z1_len ?z1_list ?z1_max ?z1_min ?z1_range ?z1_set ?z1_sorted ?z1_str ?z1_sum ?z1_tuple ?c2_MOST_LENGTH ?e1_Malformed ?e2_Malformed ?e3_Malformed ?e4_Malformed ?e5_Malformed) hmg (fun s v => .of_eq rfl)
    (case a1_is_integer => k_is)
    (case l1_is_integer => k_is)
    (case c1_is_integer => k_is)
    (case k1_is_integer => k_is)
    (case a1_is_partition => k_is)
    (case l1_is_partition => k_is)
    (case c1_is_partition => k_is)
    (case k1_is_partition => k_is)
    (case a1_is_shape => k_is)
    (case l1_is_shape => k_is)
    (case c1_is_shape => k_is)
    (case k1_is_shape => k_is)
    (case a1_boxes_to => k_is)
    (case l1_boxes_to => k_is)
    (case c1_boxes_to => k_is)
    (case k1_boxes_to => k_is)
    (case a1_check_shape => k_is)
    (case l1_check_shape => k_is)
    (case c1_check_shape => k_is)
    (case k1_check_shape => k_is)
    (case a1_vacancy_of_ring => k_is)
    (case l1_vacancy_of_ring => k_is)
    (case c1_vacancy_of_ring => k_is)
    (case k1_vacancy_of_ring => k_is)
    (case a1_is_round => k_is)
    (case l1_is_round => k_is)
    (case c1_is_round => k_is)
    (case k1_is_round => k_is)
    (case a1_shape_of_rounds => k_is)
    (case l1_shape_of_rounds => k_is)
    (case c1_shape_of_rounds => k_is)
    (case k1_shape_of_rounds => k_is)
    (case a1_are_rounds => k_is)
    (case l1_are_rounds => k_is)
    (case c1_are_rounds => k_is)
    (case k1_are_rounds => k_is)
    (case a1_is_ring => k_is)
    (case l1_is_ring => k_is)
    (case c1_is_ring => k_is)
    (case k1_is_ring => k_is)
    (case a1_check_ring => k_is)
    (case l1_check_ring => k_is)
    (case c1_check_ring => k_is)
    (case k1_check_ring => k_is)
    (case a1_turned_ring => k_is)
    (case l1_turned_ring => k_is)
    (case c1_turned_ring => k_is)
    (case k1_turned_ring => k_is)
    (case a1_is_high => k_is)
    (case l1_is_high => k_is)
    (case c1_is_high => k_is)
    (case k1_is_high => k_is)
    (case a1_least_turn => k_is)
    (case l1_least_turn => k_is)
    (case c1_least_turn => k_is)
    (case k1_least_turn => k_is)
    (case a1_vacancy => k_is)
    (case l1_vacancy => k_is)
    (case c1_vacancy => k_is)
    (case k1_vacancy => k_is)
    (case a1_lengths_in => k_is)
    (case l1_lengths_in => k_is)
    (case c1_lengths_in => k_is)
    (case k1_lengths_in => k_is)
    (case a1_chosen_for => k_is)
    (case l1_chosen_for => k_is)
    (case c1_chosen_for => k_is)
    (case k1_chosen_for => k_is)
    (case a1_grown => k_is)
    (case l1_grown => k_is)
    (case c1_grown => k_is)
    (case k1_grown => k_is)
    (case a1_lists_of => k_is)
    (case l1_lists_of => k_is)
    (case c1_lists_of => k_is)
    (case k1_lists_of => k_is)
    (case a1_high_strings => k_is)
    (case l1_high_strings => k_is)
    (case c1_high_strings => k_is)
    (case k1_high_strings => k_is)
    (case a1_angles => k_is)
    (case l1_angles => k_is)
    (case c1_angles => k_is)
    (case k1_angles => k_is)
    (case a1_law_state => k_is)
    (case l1_law_state => k_is)
    (case c1_law_state => k_is)
    (case k1_law_state => k_is)
    (case a1_law_take => k_is)
    (case l1_law_take => k_is)
    (case c1_law_take => k_is)
    (case k1_law_take => k_is)
    (case a1_law_plain => k_is)
    (case l1_law_plain => k_is)
    (case c1_law_plain => k_is)
    (case k1_law_plain => k_is)
    (case a1_law_ring => k_is)
    (case l1_law_ring => k_is)
    (case c1_law_ring => k_is)
    (case k1_law_ring => k_is)
    (case a1_law_turned => k_is)
    (case l1_law_turned => k_is)
    (case c1_law_turned => k_is)
    (case k1_law_turned => k_is)
    (case a1_law_is_high => k_is)
    (case l1_law_is_high => k_is)
    (case c1_law_is_high => k_is)
    (case k1_law_is_high => k_is)
    (case a1_law_shape => k_is)
    (case l1_law_shape => k_is)
    (case c1_law_shape => k_is)
    (case k1_law_shape => k_is)
    (case a1_law_vacancy => k_is)
    (case l1_law_vacancy => k_is)
    (case c1_law_vacancy => k_is)
    (case k1_law_vacancy => k_is)
    (case a1_law_strings => k_is)
    (case l1_law_strings => k_is)
    (case c1_law_strings => k_is)
    (case k1_law_strings => k_is)
    (case a1_law_angles => k_is)
    (case l1_law_angles => k_is)
    (case c1_law_angles => k_is)
    (case k1_law_angles => k_is)
    (case a1_law_lengths => k_is)
    (case l1_law_lengths => k_is)
    (case c1_law_lengths => k_is)
    (case k1_law_lengths => k_is)
    (case a1_law => k_is)
    (case l1_law => k_is)
    (case c1_law => k_is)
    (case k1_law => k_is)
    (case z1_abs => k_is)
    (case z1_all => k_is)
    (case z1_bool => k_is)
    (case z1_int => k_is)
    (case z1_isinstance => k_is)
    (case z1_len => k_is)
    (case z1_list => k_is)
    (case z1_max => k_is)
    (case z1_min => k_is)
    (case z1_range => k_is)
    (case z1_set => k_is)
    (case z1_sorted => k_is)
    (case z1_str => k_is)
    (case z1_sum => k_is)
    (case z1_tuple => k_is)
    (case c2_MOST_LENGTH => k_is)
    (case e1_Malformed => k_is)
    (case e2_Malformed => k_exc)
    (case e3_Malformed => k_is)
    (case e4_Malformed => k_is)
    (case e5_Malformed => k_is)
