import PyProof.Rows.All
import Wide.All
import OpenK.AllK
import Wide.FinOn
import HandS.TupAny
import HandS.TupMul
import HandS.Conv
import HandS.SetFor
import HandS.DictTup
import HandS.ForMost
import HandS.Exc
import HandS.TryOnly
import HandS.ExcOwn
import HandS.WordsExc
import HandS.IsInst
import HandS.Wide
import HandS.SortInts
import HandS.Style
import HandS.Flow
import HandS.Zip
import HandS.Deep
import HandS.Nested
import HandS.NestedK
import HandS.TryMany
import HandS.ExcSuper
import HandS.ExcField
import HandS.SetKeys
import HandS.TupSets
import KE.KTupSum
import KE.DataMinMax
import KE.KNestM
import KE.KExcSuper
import KE.RegKSuper
import KE.KExcLine
import HandS.ExcInit
import HandS.Strs
import KE.KDictPairs
import HandS.Dict
import HandS.EndOwn
import PySem.Challenge.RW_carrierroads_k25_whole_colours_kept
set_option Elab.async false
set_option linter.all false
set_option maxRecDepth 100000
set_option maxHeartbeats 8000000
/-! D0: tuples that the program makes, known whole (so that it is known that they have no dict of their own). -/
namespace DL
open PySem PySem.Spec PyProof.Rows L2
/-- what a rule that makes a tuple asks for -/
def NewT (H : Hp) (Q : VK) (xs : List V) : Prop := ∀ (p : Addr) (o : Obj), H p = none → o.dict = none → Q (.ref p) (upd H p (.frz o (.tup xs)))
section
variable {X : Cx} {pins : List (Addr × Obj)} {σ : L2.St} {H : Hp} {s : Shared}
theorem lay_tup {xs : List V} {its : List Value} {Q : VK} (I : Inv X pins σ H s) (z : xs.length ≤ sizeLine) (r : Vals xs its) (q : NewT H Q xs) :
    EP X pins σ Q (.ref s.heap.objs.size) { s with heap := s.heap.push { cls := .type "tuple", data := .seq its.toArray } } := by
  have J := I.laid (t' := s.toks) (o := .frz { cls := .type "tuple", data := .seq its.toArray } (.tup xs)) (h' := s.heap.push { cls := .type "tuple", data := .seq its.toArray }) (fun _ _ w => Heap.get?_push_of_some _ w) (Nat.le_refl _)
    ⟨Heap.get?_push_size _ rfl, z, its, r, IsTup.new _ _⟩
  exact ⟨.ref s.heap.objs.size, _, J, rfl, q _ _ (I.hok.fresh (Nat.le_refl _)) rfl⟩
/-- (a, b, ..) -/
theorem pe_tupZ {es : List Expr} {x1 : Nat} {pos : Pos} {t : TA} (h : PA X es t) : PE X (.Tuple es x1 pos) (fun σ H Q => t σ H fun xs H1 => xs.length ≤ sizeLine ∧ NewT H1 Q xs) := by
  constructor
  intro pins s σ H Q I hq
  exact wpAny_Tuple_spliced (thn (h.run pos pins s σ H _ I hq) fun us s1 ⟨xs, H1, I1, r, z, q⟩ => ⟨by have := r.length; omega, lay_tup I1 z r q⟩)
/-- tuple(t) -/
theorem call_tupZ : CallR X (.type "tuple") (fun xs H Q => ∃ p ys, xs = [.ref p] ∧ ((SqL X.K H p ys ∧ NewT H Q ys) ∨ (SqT X.K H p ys ∧ Q (.ref p) H))) := by
  rintro pins s σ H xs us Q I r ⟨p, ys, rfl, h⟩
  obtain ⟨u, rfl, rx⟩ := vals1 r
  cases rx
  rcases h with ⟨hq, q⟩ | ⟨hq, q⟩
  · obtain ⟨its, rs, pl, hz⟩ := I.list hq
    have le := rs.length
    refine call_tuple_list pl.isList (fun h' kp => ?_) (by simp only [List.size_toArray]; omega)
    have J : Inv X pins σ H { s with heap := h' } := I.kept (t' := s.toks) kp
    exact lay_tup J hz rs q
  · obtain ⟨its, _, pl, _⟩ := I.tuple hq
    exact call_tuple_same pl (show EP X pins σ Q _ _ from ⟨V.ref p, H, I, rfl, q⟩)
/-- t[lo:hi]; the whole of it is t itself -/
theorem sl_tupZ : SlR X (fun x lo hi H Q => ∃ a xs, x = .ref a ∧ SqT X.K H a xs ∧ ((HT.sIx xs.length 0 lo = 0 ∧ HT.sIx xs.length xs.length hi = xs.length) → Q (.ref a) H) ∧ (¬ (HT.sIx xs.length 0 lo = 0 ∧ HT.sIx xs.length xs.length hi = xs.length) → NewT H Q (cutV xs lo hi))) := by
  rintro pins s σ H x v vl vu lo hi sl Q I rx hs pl pu ⟨a, xs, rfl, hx, q1, q2⟩
  by_cases hw : HT.sIx xs.length 0 lo = 0 ∧ HT.sIx xs.length xs.length hi = xs.length
  · exact sl_tupA pins s σ H _ v vl vu lo hi sl Q I rx hs pl pu ⟨a, xs, rfl, hx, q1, fun e => absurd hw e⟩
  cases rx
  obtain ⟨its, r, ht, hz⟩ := I.tuple hx
  have le : its.toArray.size = xs.length := by rw [List.size_toArray]; exact r.length.symm
  refine ⟨"tuple", _, PyProof.Rows.slot_tuple_getitem.lookup, ht.typeIs, HT.getItem_tuple_cut ht hs pl pu (by rwa [le]) ?_ (by rwa [le])⟩
  have w := lay_tup (its := (its.drop (HT.sIx xs.length 0 lo)).take (HT.sIx xs.length xs.length hi - HT.sIx xs.length 0 lo)) I (Nat.le_trans (cutV_length xs lo hi) hz) ((r.drop _).take _) (q2 hw)
  rw [le]
  exact w
/-- t + u -/
theorem op_catZ : OpR X (binaryOp .Add) (fun x y H Q => ∃ a b xs ys, x = .ref a ∧ y = .ref b ∧ SqT X.K H a xs ∧ SqT X.K H b ys ∧ xs.length + ys.length ≤ sizeLine ∧
    (xs = [] → Q (.ref b) H) ∧ (xs ≠ [] → ys = [] → Q (.ref a) H) ∧ (xs ≠ [] → ys ≠ [] → NewT H Q (xs ++ ys))) := by
  rintro pins s σ H x y v u Q I rx ry ⟨a, b, xs, ys, rfl, rfl, ha, hb, hz, q0, q1, q2⟩
  by_cases c : xs = [] ∨ ys = []
  · refine op_catA pins s σ H _ _ v u Q I rx ry ⟨a, b, xs, ys, rfl, rfl, ha, hb, hz, q0, q1, fun e1 e2 => ?_⟩
    rcases c with c | c
    · exact absurd c e1
    · exact absurd c e2
  cases rx
  cases ry
  obtain ⟨i1, r1, p1, _⟩ := I.tuple ha
  obtain ⟨i2, r2, p2, _⟩ := I.tuple hb
  have c1 : xs ≠ [] := fun e => c (.inl e)
  have c2 : ys ≠ [] := fun e => c (.inr e)
  have z2 : i1.length + i2.length ≤ sizeLine := by rw [← r1.length, ← r2.length]; exact hz
  refine HT.cat_tup p1 p2 (fun e => c1 (r1.nil_iff.mp e)) (fun e => absurd (r2.nil_iff.mp e) c2) (fun _ => ?_) z2
  exact lay_tup I (by rw [List.length_append]; exact hz) (r1.append r2) (q2 c1 c2)
/-- t * k -/
theorem op_repZ : OpR X (binaryOp .Mult) (fun x y H Q => ∃ l k xs, x = .ref l ∧ y = .int k ∧ SqT X.K H l xs ∧ xs ≠ [] ∧ 2 ≤ k ∧ k ≤ 1000 ∧ xs.length ≤ 1000 ∧ NewT H Q (List.replicate k.toNat xs).flatten) := by
  rintro pins s σ H x y v u Q I rx ry ⟨l, k, xs, rfl, rfl, hT, hne, h1, h2, hz, q⟩
  cases rx
  obtain ⟨t, rfl⟩ := ry
  obtain ⟨its, r, ⟨⟨cls, dd, data, sl⟩, ho, hc, n, hd⟩, hs⟩ := I.tuple hT
  simp only at hc hd
  subst hc hd
  have le : its.length = xs.length := r.length.symm
  have hi : its.toArray.isEmpty = false := by
    cases its with
    | nil => exact absurd (List.eq_nil_of_length_eq_zero (by simpa using le.symm)) hne
    | cons a b => rfl
  have sz : its.toArray.size = xs.length := by rw [List.size_toArray, le]
  have pm : ((xs.length : Nat) : Int) * k ≤ 1000000 := by
    have w : ((xs.length : Nat) : Int) * k ≤ 1000 * k := Int.mul_le_mul_of_nonneg_right (by omega) (by omega)
    omega
  have pn : k.toNat * xs.length ≤ 1000000 := by
    have w : k.toNat * xs.length ≤ 1000 * 1000 := Nat.mul_le_mul (by omega) hz
    omega
  have k1 : (decide (k < -(2 ^ 63)) || decide (k ≥ 2 ^ 63)) = false := by simp; omega
  have k2 : (its.toArray.isEmpty || k == 1) = false := by rw [hi]; simp; omega
  have k3 : (decide (k ≤ 0) || its.toArray.isEmpty) = false := by rw [hi]; simp; omega
  have k4 : Builtin.Tuple.tupleTooMany (((its.toArray.size : Nat) : Int) * k) = false := by
    unfold Builtin.Tuple.tupleTooMany
    rw [sz, sizeLine_eq]
    exact decide_eq_false (by omega)
  have k5 : (List.replicate k.toNat its).flatten.length ≤ sizeLine := by
    rw [PyProof.Rows.lm_len_rep_flat, le, sizeLine_eq]
    omega
  have m := tuple_mulW l its.toArray n dd sl k t k1 k2 k3 (by rw [sz]; omega) k4 (by rw [size_rep, List.size_toArray]; exact k5)
  have fin : EP X pins σ Q (.ref s.heap.objs.size) { s with heap := s.heap.push { cls := .type "tuple", data := .seq (List.replicate k.toNat its).flatten.toArray } } :=
    lay_tup I (by rw [PyProof.Rows.lm_len_rep_flat, sizeLine_eq]; omega) (r.rep k.toNat) q
  rw [← size_rep] at fin
  exact wpAny_binaryOp_repeat_ref (T := "tuple") (U := "int") (by decide) ⟨_, ho, rfl⟩ (fun w => typeIs_int w k t) noFill_tuple_mul F.fills_int_mul F.slot_int_rmul repeat_tuple F.slot_int_index.lookup
    (call_meets F.slot_int_rmul (typeIs_int s k t) F.entry_int_rmul (F.args_int_rmul_2 _ _) (int_rmul_tuple k t l its.toArray n dd sl) ⟨ho, rfl, ⟨_, ho, rfl⟩,
      call_meets F.slot_tuple_mul ⟨_, ho, rfl⟩ F.entry_tuple_mul (F.args_tuple_mul_2 _ _) m ⟨ho, fin⟩⟩)
end
end DL
namespace DL
open PySem PySem.Spec PyProof.Rows L2

/-! ### data -/
/-- a value that never changes -/
inductive PV where
  | non | bl (b : Bool) | int (i : Int) | str (x : Str) | tup (xs : List PV) | lst (xs : List PV) | fro (xs : List PV) | glob (n : Str)
/-- what may change -/
inductive Cell where
  | lst (xs : List PV)
  | nst (ks : List Nat)
  | dct (kvs : List (Int × PV))
  | fn
  | tab (x : Str)
abbrev AH := List Cell
/-- what a name holds -/
inductive DV where
  | p (v : PV) | c (n : Nat)
abbrev Sig := List (Option DV)
inductive Res (α : Type) where
  | ok (a : α) (S : AH) | exc (c : Str) (p : List (Str × PV)) (S : AH) | bad
def Res.bind {α β : Type} (r : Res α) (k : α → AH → Res β) : Res β := match r with
  | .ok a S => k a S
  | .exc c p S => .exc c p S
  | .bad => .bad
@[simp] theorem Res.bind_ok {α β : Type} (a : α) (S : AH) (k : α → AH → Res β) : (Res.ok a S).bind k = k a S := rfl
@[simp] theorem Res.bind_exc {α β : Type} (c : Str) (p : List (Str × PV)) (S : AH) (k : α → AH → Res β) : (Res.exc c p S : Res α).bind k = .exc c p S := rfl
@[simp] theorem Res.bind_bad {α β : Type} (k : α → AH → Res β) : (Res.bad : Res α).bind k = .bad := rfl
inductive Out where
  | nx (δ : Sig) (S : AH) | rt (d : DV) (S : AH) | rtT (ds : List DV) (S : AH) | bk (δ : Sig) (S : AH) | ct (δ : Sig) (S : AH) | exc (c : Str) (p : List (Str × PV)) (δ : Sig) (S : AH) | bad

/-! ### the relation -/
/-- the written part, the module's names -/
structure Wd where
  K : PySem.W.Frag
  mg : Str → Option Value
/-- where the cells lie; what nobody sees -/
structure As where
  cells : List Addr
  hid : Addr → Prop
def As.off (as : As) (a : Addr) : Prop := a ∉ as.cells ∧ ¬ as.hid a
def As.add (as : As) (p : Addr) : As := ⟨as.cells ++ [p], as.hid⟩
def As.hide (as : As) (p : Addr) : As := ⟨as.cells, fun a => as.hid a ∨ a = p⟩
def KT (K : PySem.W.Frag) (a : Addr) (xs : List V) : Prop :=
  ∃ (o : Obj) (its : Array Value) (n : Nat), K.lookup a = some o ∧ o.cls = .type "tuple" ∧ o.dict = none ∧ o.data = .seq its n ∧ its.size ≤ sizeLine ∧ Vals xs its.toList
def RdT (K : PySem.W.Frag) (as : As) (H : Hp) (a : Addr) (xs : List V) : Prop := xs.length ≤ sizeLine ∧ (((∃ o : Obj, o.dict = none ∧ H a = some (.frz o (.tup xs))) ∧ as.off a) ∨ KT K a xs)
def RdL (as : As) (H : Hp) (a : Addr) (xs : List V) : Prop := xs.length ≤ sizeLine ∧ H a = some (.lst xs) ∧ as.off a
def KL (K : PySem.W.Frag) (a : Addr) (xs : List V) : Prop :=
  ∃ (o : Obj) (its : Array Value) (n : Nat), K.lookup a = some o ∧ o.cls = .type "list" ∧ o.dict = none ∧ o.data = .seq its n ∧ its.size ≤ sizeLine ∧ Vals xs its.toList
def RdF (K : PySem.W.Frag) (as : As) (H : Hp) (a : Addr) (xs : List V) : Prop := xs.length ≤ sizeLine ∧ (((∃ o, H a = some (.frz o (.lst xs))) ∧ as.off a) ∨ KL K a xs)
mutual
inductive PR (M : Wd) (as : As) (H : Hp) : V → PV → Prop
  | non : PR M as H .non .non
  | bl (b : Bool) : PR M as H (.bl b) (.bl b)
  | int (i : Int) : PR M as H (.int i) (.int i)
  | str (x : Str) : PR M as H (.str x) (.str x)
  | tup {a : Addr} {vs : List V} {ps : List PV} : RdT M.K as H a vs → PRs M as H vs ps → PR M as H (.ref a) (.tup ps)
  | lst {a : Addr} {vs : List V} {ps : List PV} : RdL as H a vs → PRs M as H vs ps → PR M as H (.ref a) (.lst ps)
  | fro {a : Addr} {vs : List V} {ps : List PV} : RdF M.K as H a vs → PRs M as H vs ps → PR M as H (.ref a) (.fro ps)
  | glob {v : V} {u : Value} {n : Str} : M.mg n = some u → RelV v u → PR M as H v (.glob n)
inductive PRs (M : Wd) (as : As) (H : Hp) : List V → List PV → Prop
  | nil : PRs M as H [] []
  | cons {v : V} {vs : List V} {p : PV} {ps : List PV} : PR M as H v p → PRs M as H vs ps → PRs M as H (v :: vs) (p :: ps)
end

/-- the later state -/
structure Ext (as : As) (H : Hp) (as' : As) (H' : Hp) : Prop where
  more : ∃ m, as'.cells = as.cells ++ m
  hids : as'.hid = as.hid
  keep : ∀ a o, H a = some o → as.off a → H' a = some o ∧ as'.off a
  hkeep : ∀ a o, as.hid a → H a = some o → H' a = some o
  exts : ∀ a g, H a = some (.ext g) → H' a = some (.ext g)
theorem Ext.refl (as : As) (H : Hp) : Ext as H as H := ⟨⟨[], by simp⟩, rfl, fun a o h n => ⟨h, n⟩, fun _ _ _ h => h, fun _ _ h => h⟩
theorem Ext.trans {as as1 as2 : As} {H H1 H2 : Hp} (x : Ext as H as1 H1) (y : Ext as1 H1 as2 H2) : Ext as H as2 H2 := by
  obtain ⟨m1, e1⟩ := x.more
  obtain ⟨m2, e2⟩ := y.more
  refine ⟨⟨m1 ++ m2, by rw [e2, e1, List.append_assoc]⟩, by rw [y.hids, x.hids], fun a o h n => ?_, fun a o hh h => ?_, fun a g h => y.exts a g (x.exts a g h)⟩
  · obtain ⟨h1, n1⟩ := x.keep a o h n
    exact y.keep a o h1 n1
  · exact y.hkeep a o (by rw [x.hids]; exact hh) (x.hkeep a o hh h)
theorem Ext.get {as as' : As} {H H' : Hp} (x : Ext as H as' H') {i : Nat} {a : Addr} (h : as.cells[i]? = some a) : as'.cells[i]? = some a := by
  obtain ⟨m, e⟩ := x.more
  rw [e, List.getElem?_append_left (List.getElem?_eq_some_iff.mp h).1]
  exact h
/-- the later state, whatever is hidden -/
structure Exw (as : As) (H : Hp) (as' : As) (H' : Hp) : Prop where
  more : ∃ m, as'.cells = as.cells ++ m
  keep : ∀ a o, H a = some o → as.off a → H' a = some o ∧ as'.off a
theorem Ext.w {as as' : As} {H H' : Hp} (x : Ext as H as' H') : Exw as H as' H' := ⟨x.more, x.keep⟩
instance {as as' : As} {H H' : Hp} : CoeOut (Ext as H as' H') (Exw as H as' H') := ⟨Ext.w⟩
theorem Exw.get {as as' : As} {H H' : Hp} (x : Exw as H as' H') {i : Nat} {a : Addr} (h : as.cells[i]? = some a) : as'.cells[i]? = some a := by
  obtain ⟨m, e⟩ := x.more
  rw [e, List.getElem?_append_left (List.getElem?_eq_some_iff.mp h).1]
  exact h
theorem Exw.trans {as as1 as2 : As} {H H1 H2 : Hp} (x : Exw as H as1 H1) (y : Exw as1 H1 as2 H2) : Exw as H as2 H2 := by
  obtain ⟨m1, e1⟩ := x.more
  obtain ⟨m2, e2⟩ := y.more
  refine ⟨⟨m1 ++ m2, by rw [e2, e1, List.append_assoc]⟩, fun a o h n => ?_⟩
  obtain ⟨h1, n1⟩ := x.keep a o h n
  exact y.keep a o h1 n1
section
variable {M : Wd} {as as' : As} {H H' : Hp}
theorem RdT.mono {K : PySem.W.Frag} {a : Addr} {xs : List V} (x : Exw as H as' H') (h : RdT K as H a xs) : RdT K as' H' a xs := by
  refine ⟨h.1, ?_⟩
  rcases h.2 with ⟨⟨o, d, e⟩, n⟩ | h
  · obtain ⟨e', n'⟩ := x.keep _ _ e n
    exact .inl ⟨⟨o, d, e'⟩, n'⟩
  · exact .inr h
theorem RdL.mono {a : Addr} {xs : List V} (x : Exw as H as' H') (h : RdL as H a xs) : RdL as' H' a xs := ⟨h.1, x.keep _ _ h.2.1 h.2.2⟩
theorem RdF.mono {K : PySem.W.Frag} {a : Addr} {xs : List V} (x : Exw as H as' H') (h : RdF K as H a xs) : RdF K as' H' a xs := by
  refine ⟨h.1, ?_⟩
  rcases h.2 with ⟨⟨o, e⟩, n⟩ | h
  · obtain ⟨e', n'⟩ := x.keep _ _ e n
    exact .inl ⟨⟨o, e'⟩, n'⟩
  · exact .inr h
mutual
theorem PR.mono (x : Exw as H as' H') : ∀ {v : V} {p : PV}, PR M as H v p → PR M as' H' v p
  | _, _, .non => .non
  | _, _, .bl b => .bl b
  | _, _, .int i => .int i
  | _, _, .str y => .str y
  | _, _, .tup h t => .tup (h.mono x) (PRs.mono x t)
  | _, _, .lst h t => .lst (h.mono x) (PRs.mono x t)
  | _, _, .fro h t => .fro (h.mono x) (PRs.mono x t)
  | _, _, .glob h r => .glob h r
theorem PRs.mono (x : Exw as H as' H') : ∀ {vs : List V} {ps : List PV}, PRs M as H vs ps → PRs M as' H' vs ps
  | _, _, .nil => .nil
  | _, _, .cons h t => .cons (PR.mono x h) (PRs.mono x t)
end
theorem PRs.length : ∀ {vs : List V} {ps : List PV}, PRs M as H vs ps → vs.length = ps.length
  | _, _, .nil => rfl
  | _, _, .cons _ t => congrArg (· + 1) (PRs.length t)
theorem PRs.get : ∀ {vs : List V} {ps : List PV} {i : Nat} {p : PV}, PRs M as H vs ps → ps[i]? = some p → ∃ v, vs[i]? = some v ∧ PR M as H v p
  | _, _, _, _, .nil, e => by simp at e
  | _, _, 0, _, .cons r _, e => by simp at e; subst e; exact ⟨_, rfl, r⟩
  | _, _, i + 1, p, .cons _ t, e => by
    obtain ⟨u, h1, h2⟩ := PRs.get (i := i) (p := p) t (by simpa using e)
    exact ⟨u, by simpa using h1, h2⟩
theorem PRs.getV : ∀ {vs : List V} {ps : List PV} {i : Nat} {v : V}, PRs M as H vs ps → vs[i]? = some v → ∃ p, ps[i]? = some p ∧ PR M as H v p
  | _, _, _, _, .nil, e => by simp at e
  | _, _, 0, _, .cons r _, e => by simp at e; subst e; exact ⟨_, rfl, r⟩
  | _, _, i + 1, v, .cons _ t, e => by
    obtain ⟨u, h1, h2⟩ := PRs.getV (i := i) (v := v) t (by simpa using e)
    exact ⟨u, by simpa using h1, h2⟩
theorem PRs.append : ∀ {vs ws : List V} {ps qs : List PV}, PRs M as H vs ps → PRs M as H ws qs → PRs M as H (vs ++ ws) (ps ++ qs)
  | _, _, _, _, .nil, s => s
  | _, _, _, _, .cons r t, s => .cons r (PRs.append t s)
theorem PRs.take : ∀ {vs : List V} {ps : List PV} (n : Nat), PRs M as H vs ps → PRs M as H (vs.take n) (ps.take n)
  | _, _, 0, _ => .nil
  | _, _, _ + 1, .nil => .nil
  | _, _, n + 1, .cons r t => .cons r (PRs.take n t)
theorem PRs.drop : ∀ {vs : List V} {ps : List PV} (n : Nat), PRs M as H vs ps → PRs M as H (vs.drop n) (ps.drop n)
  | _, _, 0, r => r
  | _, _, _ + 1, .nil => .nil
  | _, _, n + 1, .cons _ t => PRs.drop n t
theorem PRs.set {v : V} {p : PV} (r : PR M as H v p) : ∀ {vs : List V} {ps : List PV} (i : Nat), PRs M as H vs ps → PRs M as H (vs.set i v) (ps.set i p)
  | _, _, _, .nil => .nil
  | _, _, 0, .cons _ t => .cons r t
  | _, _, i + 1, .cons q t => .cons q (PRs.set r i t)
theorem PRs.reverse {vs : List V} {ps : List PV} (h : PRs M as H vs ps) : PRs M as H vs.reverse ps.reverse := by
  have go : ∀ (vs : List V) (ps : List PV), PRs M as H vs ps → PRs M as H vs.reverse ps.reverse := by
    intro vs
    induction vs with
    | nil => intro ps h; cases h; exact .nil
    | cons v vs ih =>
      intro ps h
      cases h with
      | cons r t => rw [List.reverse_cons, List.reverse_cons]; exact PRs.append (ih _ t) (.cons r .nil)
  exact go vs ps h
theorem PRs.dropLast {vs : List V} {ps : List PV} (h : PRs M as H vs ps) : PRs M as H vs.dropLast ps.dropLast := by
  rw [List.dropLast_eq_take, List.dropLast_eq_take, h.length]
  exact h.take _
theorem PRs.ints : ∀ {vs : List V} {ns : List Int}, PRs M as H vs (ns.map PV.int) → vs = ns.map V.int
  | vs, [], h => by cases h; rfl
  | vs, n :: ns, h => by
    cases h with
    | cons r t => cases r; rw [PRs.ints t]; rfl
theorem PRs.bls : ∀ {vs : List V} {ns : List Bool}, PRs M as H vs (ns.map PV.bl) → vs = ns.map V.bl
  | vs, [], h => by cases h; rfl
  | vs, n :: ns, h => by
    cases h with
    | cons r t => cases r; rw [PRs.bls t]; rfl
theorem PRs.of_ints : ∀ (ns : List Int), PRs M as H (ns.map V.int) (ns.map PV.int)
  | [] => .nil
  | n :: ns => .cons (.int n) (PRs.of_ints ns)
theorem RdT.sq {K : PySem.W.Frag} {a : Addr} {xs : List V} (h : RdT K as H a xs) : SqT K H a xs := by
  rcases h.2 with ⟨⟨o, _, e⟩, _⟩ | ⟨o, its, n, h1, h2, _, h4, h5, h6⟩
  · exact .inl (.inr ⟨o, e⟩)
  · exact .inr ⟨o, its, n, h1, h2, h4, h5, h6⟩
theorem RdL.sq {K : PySem.W.Frag} {a : Addr} {xs : List V} (h : RdL as H a xs) : SqL K H a xs := .of h.2.1
theorem RdF.sq {K : PySem.W.Frag} {a : Addr} {xs : List V} (h : RdF K as H a xs) : SqL K H a xs := by
  rcases h.2 with ⟨⟨o, e⟩, _⟩ | h
  · exact .inl (.inr ⟨o, e⟩)
  · exact .inr h
end

/-! ### the cells -/
/-- values that are cells -/
def KRs (as : As) (vs : List V) (ks : List Nat) : Prop := Paired (fun (v : V) (k : Nat) => ∃ b, as.cells[k]? = some b ∧ v = .ref b) vs ks
/-- a dict's entries -/
def dzip (kvs : List (Int × PV)) (vs : List V) : List (Key × V) := (kvs.map fun p => (Sum.inl p.1 : Key)).zip vs
/-- a is the table of code objects of the def x -/
def TabK (M : Wd) (x : Str) (a : Addr) : Prop := ∃ (f c : Addr) (o : Obj) (fd : FuncData), M.mg x = some (.ref f) ∧ M.K.lookup f = some o ∧ o.data = .func fd ∧ fd.code = .ref c ∧ PySem.W.codeHdIn M.K c a = true
theorem tabN_exts {H H' : Hp} {a : Addr} {nm : Nat → Nat → Str} (h : NdefX.TabN H a nm) (k : H' a = H a) (x : ∀ b g, H b = some (.ext g) → H' b = some (.ext g)) : NdefX.TabN H' a nm := by
  obtain ⟨ps, h1, h2, h3⟩ := h
  refine ⟨ps, by rw [k]; exact h1, h2, fun pos cv hc => ?_⟩
  obtain ⟨c, e1, e2⟩ := h3 pos cv hc
  exact ⟨c, e1, x c _ e2⟩
def CR (M : Wd) (as : As) (H : Hp) (a : Addr) : Cell → Prop
  | .lst ps => ∃ vs, vs.length ≤ sizeLine ∧ H a = some (.lst vs) ∧ PRs M as H vs ps
  | .nst ks => ∃ vs, vs.length ≤ sizeLine ∧ H a = some (.lst vs) ∧ KRs as vs ks
  | .dct kvs => ∃ vs, vs.length ≤ sizeLine ∧ H a = some (.dK (dzip kvs vs)) ∧ PRs M as H vs (kvs.map (·.2))
  | .fn => ∃ g : Heap → Prop, H a = some (.ext g)
  | .tab x => TabK M x a ∧ NdefX.TabN H a (fun _ _ => x ++ ".<locals>.visit")
theorem KRs.mono {as as' : As} {H H' : Hp} (x : Exw as H as' H') {vs : List V} {ks : List Nat} (h : KRs as vs ks) : KRs as' vs ks := Paired.mapP h fun _ _ ⟨b, e, r⟩ => ⟨b, x.get e, r⟩
structure SR (M : Wd) (as : As) (H : Hp) (S : AH) : Prop where
  len : as.cells.length = S.length
  nd : as.cells.Nodup
  apart : ∀ a ∈ as.cells, ¬ as.hid a
  hidd : ∀ a, as.hid a → ∃ o, H a = some o
  cell : ∀ (i : Nat) (a : Addr) (c : Cell), as.cells[i]? = some a → S[i]? = some c → CR M as H a c
def DVR (M : Wd) (as : As) (H : Hp) (v : V) : DV → Prop
  | .p x => PR M as H v x
  | .c n => ∃ a, as.cells[n]? = some a ∧ v = .ref a
abbrev DVRs (M : Wd) (as : As) (H : Hp) : List V → List DV → Prop := Paired (DVR M as H)
structure ER (M : Wd) (as : As) (H : Hp) (σ : L2.St) (δ : Sig) : Prop where
  len : σ.length = δ.length
  get : ∀ (i : Nat) (d : DV), δ[i]? = some (some d) → ∃ v, σ[i]? = some (some v) ∧ DVR M as H v d
section
variable {M : Wd} {as as' : As} {H H' : Hp} {S : AH} {σ : L2.St} {δ : Sig}
theorem DVR.mono (x : Exw as H as' H') {v : V} : ∀ {d : DV}, DVR M as H v d → DVR M as' H' v d
  | .p _, h => PR.mono x h
  | .c _, ⟨a, e, r⟩ => ⟨a, x.get e, r⟩
theorem DVRs.mono (x : Exw as H as' H') {vs : List V} {ds : List DV} (h : DVRs M as H vs ds) : DVRs M as' H' vs ds := Paired.mapP h fun _ _ => DVR.mono x
theorem ER.mono (x : Exw as H as' H') (h : ER M as H σ δ) : ER M as' H' σ δ := ⟨h.len, fun i d e => by
  obtain ⟨v, q, r⟩ := h.get i d e
  exact ⟨v, q, r.mono x⟩⟩
theorem ER.set (h : ER M as H σ δ) {v : V} {d : DV} (r : DVR M as H v d) (i : Nat) : ER M as H (σ.set i (some v)) (δ.set i (some d)) := by
  refine ⟨by rw [List.length_set, List.length_set]; exact h.len, fun j e q => ?_⟩
  by_cases hj : i = j
  · subst hj
    have hi : i < δ.length := by have := (List.getElem?_eq_some_iff.mp q).1; rw [List.length_set] at this; exact this
    rw [List.getElem?_set_self hi] at q
    cases q
    exact ⟨v, List.getElem?_set_self (by rw [h.len]; exact hi), r⟩
  · rw [List.getElem?_set_ne hj] at q ⊢
    exact h.get j e q
theorem ER.clear (h : ER M as H σ δ) (i : Nat) : ER M as H (σ.set i none) (δ.set i none) := by
  refine ⟨by rw [List.length_set, List.length_set]; exact h.len, fun j e q => ?_⟩
  by_cases hj : i = j
  · subst hj
    have hi : i < δ.length := by have := (List.getElem?_eq_some_iff.mp q).1; rw [List.length_set] at this; exact this
    rw [List.getElem?_set_self hi] at q
    cases q
  · rw [List.getElem?_set_ne hj] at q ⊢
    exact h.get j e q
def wipeD (δ : Sig) : List Nat → Sig
  | [] => δ
  | v :: vs => (wipeD δ vs).set v none
theorem ER.wipe (h : ER M as H σ δ) : ∀ vs, ER M as H (L2.wipe σ vs) (wipeD δ vs)
  | [] => h
  | v :: vs => (ER.wipe h vs).clear v

theorem SR.mem_some (h : SR M as H S) {p : Addr} (m : p ∈ as.cells) : ∃ o, H p = some o := by
  obtain ⟨i, hi⟩ := List.mem_iff_getElem?.mp m
  have hl : i < S.length := by rw [← h.len]; exact (List.getElem?_eq_some_iff.mp hi).1
  have q := h.cell i p S[i] hi (List.getElem?_eq_getElem hl)
  revert q
  cases S[i] with
  | lst ps => rintro ⟨vs, _, e, _⟩; exact ⟨_, e⟩
  | nst ks => rintro ⟨vs, _, e, _⟩; exact ⟨_, e⟩
  | dct kvs => rintro ⟨vs, _, e, _⟩; exact ⟨_, e⟩
  | fn => rintro ⟨g, e⟩; exact ⟨_, e⟩
  | tab x => rintro ⟨_, ps, e, _⟩; exact ⟨_, e⟩
theorem SR.fresh (h : SR M as H S) {p : Addr} (n : H p = none) : as.off p := by
  refine ⟨fun m => ?_, fun m => ?_⟩
  · obtain ⟨o, e⟩ := h.mem_some m
    rw [n] at e; cases e
  · obtain ⟨o, e⟩ := h.hidd p m
    rw [n] at e; cases e
theorem CR.mono {a : Addr} (x : Ext as H as' H') (k : H' a = H a) : ∀ {c : Cell}, CR M as H a c → CR M as' H' a c
  | .lst ps, ⟨vs, z, e, r⟩ => ⟨vs, z, by rw [k]; exact e, r.mono x⟩
  | .nst ks, ⟨vs, z, e, r⟩ => ⟨vs, z, by rw [k]; exact e, r.mono x.w⟩
  | .dct kvs, ⟨vs, z, e, r⟩ => ⟨vs, z, by rw [k]; exact e, r.mono x⟩
  | .fn, ⟨g, e⟩ => ⟨g, by rw [k]; exact e⟩
  | .tab _, ⟨u, t⟩ => ⟨u, tabN_exts t k x.exts⟩
/-- something new is laid -/
theorem ext_new {o : HO} {p : Addr} (h : SR M as H S) (n : H p = none) : Ext as H as (upd H p o) :=
  ⟨⟨[], by simp⟩, rfl, fun a u e na => ⟨by rw [upd_ne (ne_of_none e n)]; exact e, na⟩, fun a u _ e => by rw [upd_ne (ne_of_none e n)]; exact e, fun a g e => by rw [upd_ne (ne_of_none e n)]; exact e⟩
theorem SR.new {o : HO} {p : Addr} (h : SR M as H S) (n : H p = none) : SR M as (upd H p o) S :=
  ⟨h.len, h.nd, h.apart, fun a ha => by
    obtain ⟨u, e⟩ := h.hidd a ha
    exact ⟨u, by rw [upd_ne (ne_of_none e n)]; exact e⟩, fun i a c e1 e2 => (h.cell i a c e1 e2).mono (ext_new h n) (upd_ne fun z => (h.fresh n).1 (by rw [← z]; exact List.mem_of_getElem? e1))⟩
theorem ext_any {o : HO} {p : Addr} (h : SR M as H S) (n : H p = none) : Ext as H (as.add p) (upd H p o) := by
  refine ⟨⟨[p], rfl⟩, rfl, fun a u e na => ⟨by rw [upd_ne (ne_of_none e n)]; exact e, fun m => ?_, na.2⟩, fun a u _ e => by rw [upd_ne (ne_of_none e n)]; exact e, fun a g e => by rw [upd_ne (ne_of_none e n)]; exact e⟩
  rcases List.mem_append.mp m with m | m
  · exact na.1 m
  · have : a = p := by simpa using m
    subst this
    rw [n] at e; cases e
theorem ext_cell {vs : List V} {p : Addr} (h : SR M as H S) (n : H p = none) : Ext as H (as.add p) (upd H p (.lst vs)) := ext_any h n
theorem SR.newAny {o : HO} {cl : Cell} {p : Addr} (h : SR M as H S) (n : H p = none) (k : CR M (as.add p) (upd H p o) p cl) : SR M (as.add p) (upd H p o) (S ++ [cl]) := by
  have x := ext_any (o := o) h n
  refine ⟨by unfold As.add; rw [List.length_append, List.length_append, h.len]; rfl, List.nodup_append.mpr ⟨h.nd, by simp, fun a ha b hb e => ?_⟩, fun a ha => ?_, fun a ha => ?_, fun i a c e1 e2 => ?_⟩
  · have : b = p := by simpa using hb
    subst this
    subst e
    exact (h.fresh n).1 ha
  · rcases List.mem_append.mp ha with m | m
    · exact h.apart a m
    · have : a = p := by simpa using m
      subst this
      exact (h.fresh n).2
  · obtain ⟨u, e⟩ := h.hidd a ha
    exact ⟨u, by rw [upd_ne (ne_of_none e n)]; exact e⟩
  · have e1 : (as.cells ++ [p])[i]? = some a := e1
    by_cases hi : i < as.cells.length
    · rw [List.getElem?_append_left hi] at e1
      rw [List.getElem?_append_left (by rw [← h.len]; exact hi)] at e2
      exact (h.cell i a c e1 e2).mono x (upd_ne fun z => (h.fresh n).1 (by rw [← z]; exact List.mem_of_getElem? e1))
    · have hl : i < (as.cells ++ [p]).length := (List.getElem?_eq_some_iff.mp e1).1
      rw [List.length_append, List.length_singleton] at hl
      have hi' : i = as.cells.length := by omega
      subst hi'
      rw [List.getElem?_append_right (Nat.le_refl _), Nat.sub_self] at e1
      rw [h.len, List.getElem?_append_right (Nat.le_refl _), Nat.sub_self] at e2
      have e1' : p = a := by simpa using e1
      have e2' : cl = c := by simpa using e2
      subst e1'
      subst e2'
      exact k
theorem SR.newCell {vs : List V} {ps : List PV} {p : Addr} (h : SR M as H S) (n : H p = none) (z : vs.length ≤ sizeLine) (r : PRs M as H vs ps) : SR M (as.add p) (upd H p (.lst vs)) (S ++ [.lst ps]) := h.newAny n ⟨vs, z, upd_same, r.mono (ext_cell (vs := vs) h n).w⟩
theorem SR.newNest {vs : List V} {ks : List Nat} {p : Addr} (h : SR M as H S) (n : H p = none) (z : vs.length ≤ sizeLine) (r : KRs as vs ks) : SR M (as.add p) (upd H p (.lst vs)) (S ++ [.nst ks]) := h.newAny n ⟨vs, z, upd_same, r.mono (ext_cell (vs := vs) h n).w⟩
theorem SR.at (h : SR M as H S) {n : Nat} {ps : List PV} (e : S[n]? = some (.lst ps)) : ∃ a vs, as.cells[n]? = some a ∧ vs.length ≤ sizeLine ∧ H a = some (.lst vs) ∧ PRs M as H vs ps := by
  have hl : n < as.cells.length := by rw [h.len]; exact (List.getElem?_eq_some_iff.mp e).1
  obtain ⟨vs, z, q, r⟩ := h.cell n as.cells[n] _ (List.getElem?_eq_getElem hl) e
  exact ⟨as.cells[n], vs, List.getElem?_eq_getElem hl, z, q, r⟩
theorem SR.atD (h : SR M as H S) {n : Nat} {kvs : List (Int × PV)} (e : S[n]? = some (.dct kvs)) : ∃ a vs, as.cells[n]? = some a ∧ vs.length ≤ sizeLine ∧ H a = some (.dK (dzip kvs vs)) ∧ PRs M as H vs (kvs.map (·.2)) := by
  have hl : n < as.cells.length := by rw [h.len]; exact (List.getElem?_eq_some_iff.mp e).1
  obtain ⟨vs, z, q, r⟩ := h.cell n as.cells[n] _ (List.getElem?_eq_getElem hl) e
  exact ⟨as.cells[n], vs, List.getElem?_eq_getElem hl, z, q, r⟩
theorem ext_write {o : HO} {n : Nat} {a : Addr} {w0 : List V} (h : SR M as H S) (e : as.cells[n]? = some a) (hw : H a = some (.lst w0)) : Ext as H as (upd H a o) :=
  ⟨⟨[], by simp⟩, rfl, fun b u q nb => ⟨by rw [upd_ne fun z => nb.1 (by rw [z]; exact List.mem_of_getElem? e)]; exact q, nb⟩, fun b u hb q => by
    rw [upd_ne fun z => h.apart b (by rw [z]; exact List.mem_of_getElem? e) hb]; exact q, fun b g q => by
    rw [upd_ne fun z => by rw [z, hw] at q; cases q]; exact q⟩
theorem SR.writeAny (h : SR M as H S) {n : Nat} {a : Addr} {o : HO} {cl : Cell} {w0 : List V} (e : as.cells[n]? = some a) (hw : H a = some (.lst w0)) (k : CR M as (upd H a o) a cl) : SR M as (upd H a o) (S.set n cl) := by
  have x : Ext as H as (upd H a o) := ext_write h e hw
  refine ⟨by rw [List.length_set]; exact h.len, h.nd, h.apart, fun b hb => ?_, fun i b c e1 e2 => ?_⟩
  · obtain ⟨u, q⟩ := h.hidd b hb
    exact ⟨u, x.hkeep b u hb q⟩
  by_cases hi : n = i
  · subst hi
    rw [e] at e1; cases e1
    have hl : n < S.length := by rw [← h.len]; exact (List.getElem?_eq_some_iff.mp e).1
    rw [List.getElem?_set_self hl] at e2
    cases e2
    exact k
  · rw [List.getElem?_set_ne hi] at e2
    refine (h.cell i b c e1 e2).mono x (upd_ne fun q => hi ?_)
    subst q
    have h1 : n < as.cells.length := (List.getElem?_eq_some_iff.mp e).1
    have h2 : i < as.cells.length := (List.getElem?_eq_some_iff.mp e1).1
    rw [List.getElem?_eq_getElem h1] at e
    rw [List.getElem?_eq_getElem h2] at e1
    exact (List.getElem_inj h.nd).mp (by simp only [Option.some.injEq] at e e1; rw [e, e1])
theorem SR.write (h : SR M as H S) {n : Nat} {a : Addr} {vs w0 : List V} {ps : List PV} (e : as.cells[n]? = some a) (hw : H a = some (.lst w0)) (z : vs.length ≤ sizeLine) (r : PRs M as H vs ps) : SR M as (upd H a (.lst vs)) (S.set n (.lst ps)) := h.writeAny e hw ⟨vs, z, upd_same, r.mono (ext_write (o := .lst vs) h e hw).w⟩
theorem SR.writeNest (h : SR M as H S) {n : Nat} {a : Addr} {vs w0 : List V} {ks : List Nat} (e : as.cells[n]? = some a) (hw : H a = some (.lst w0)) (z : vs.length ≤ sizeLine) (r : KRs as vs ks) : SR M as (upd H a (.lst vs)) (S.set n (.nst ks)) := h.writeAny e hw ⟨vs, z, upd_same, r⟩
theorem SR.atN (h : SR M as H S) {n : Nat} {ks : List Nat} (e : S[n]? = some (.nst ks)) : ∃ a vs, as.cells[n]? = some a ∧ vs.length ≤ sizeLine ∧ H a = some (.lst vs) ∧ KRs as vs ks := by
  have hl : n < as.cells.length := by rw [h.len]; exact (List.getElem?_eq_some_iff.mp e).1
  obtain ⟨vs, z, q, r⟩ := h.cell n as.cells[n] _ (List.getElem?_eq_getElem hl) e
  exact ⟨as.cells[n], vs, List.getElem?_eq_getElem hl, z, q, r⟩
/-- one thing is hidden: H is Hm with something at p -/
theorem RdT.hide {K : PySem.W.Frag} {o : HO} {p a : Addr} {xs : List V} (n : H p = none) (h : RdT K as H a xs) : RdT K (as.hide p) (upd H p o) a xs := by
  refine ⟨h.1, ?_⟩
  rcases h.2 with ⟨⟨u, d, e⟩, q⟩ | h
  · have ne : a ≠ p := ne_of_none e n
    exact .inl ⟨⟨u, d, by rw [upd_ne ne]; exact e⟩, q.1, fun z => z.elim q.2 ne⟩
  · exact .inr h
theorem RdL.hide {o : HO} {p a : Addr} {xs : List V} (n : H p = none) (h : RdL as H a xs) : RdL (as.hide p) (upd H p o) a xs := by
  have ne : a ≠ p := ne_of_none h.2.1 n
  exact ⟨h.1, by rw [upd_ne ne]; exact h.2.1, h.2.2.1, fun z => z.elim h.2.2.2 ne⟩
theorem RdF.hide {K : PySem.W.Frag} {o : HO} {p a : Addr} {xs : List V} (n : H p = none) (h : RdF K as H a xs) : RdF K (as.hide p) (upd H p o) a xs := by
  refine ⟨h.1, ?_⟩
  rcases h.2 with ⟨⟨u, e⟩, q⟩ | h
  · have ne : a ≠ p := ne_of_none e n
    exact .inl ⟨⟨u, by rw [upd_ne ne]; exact e⟩, q.1, fun z => z.elim q.2 ne⟩
  · exact .inr h
mutual
theorem PR.hide {o : HO} {p : Addr} (n : H p = none) : ∀ {v : V} {x : PV}, PR M as H v x → PR M (as.hide p) (upd H p o) v x
  | _, _, .non => .non
  | _, _, .bl b => .bl b
  | _, _, .int i => .int i
  | _, _, .str y => .str y
  | _, _, .tup h t => .tup (h.hide n) (PRs.hide n t)
  | _, _, .lst h t => .lst (h.hide n) (PRs.hide n t)
  | _, _, .fro h t => .fro (h.hide n) (PRs.hide n t)
  | _, _, .glob h r => .glob h r
theorem PRs.hide {o : HO} {p : Addr} (n : H p = none) : ∀ {vs : List V} {ps : List PV}, PRs M as H vs ps → PRs M (as.hide p) (upd H p o) vs ps
  | _, _, .nil => .nil
  | _, _, .cons h t => .cons (PR.hide n h) (PRs.hide n t)
end
/-- H without p -/
def del (H : Hp) (p : Addr) : Hp := fun b => if b = p then none else H b
theorem del_same (H : Hp) (p : Addr) : del H p p = none := by unfold del; rw [if_pos rfl]
theorem del_ne {H : Hp} {p b : Addr} (h : b ≠ p) : del H p b = H b := by unfold del; rw [if_neg h]
theorem upd_del {H : Hp} {p : Addr} {o : HO} (h : H p = some o) : upd (del H p) p o = H := by
  funext b
  by_cases e : b = p
  · subst e; rw [upd_same, h]
  · rw [upd_ne e, del_ne e]
theorem del_upd {H : Hp} {p : Addr} {o : HO} (h : H p = none) : del (upd H p o) p = H := by
  funext b
  by_cases e : b = p
  · subst e; rw [del_same, h]
  · rw [del_ne e, upd_ne e]
theorem del_updu (H : Hp) (p : Addr) (o : HO) : del (upd H p o) p = del H p := by
  funext b
  by_cases e : b = p
  · subst e; rw [del_same, del_same]
  · rw [del_ne e, del_ne e, upd_ne e]
theorem Exw.hide {as1 as : As} {H1 H : Hp} {p : Addr} {o : HO} (x : Exw as1 H1 as H) (n1 : H1 p = none) : Exw as1 H1 (as.hide p) (upd H p o) :=
  ⟨x.more, fun a u e q => by
    obtain ⟨h1, h2⟩ := x.keep a u e q
    have ne : a ≠ p := ne_of_none e n1
    exact ⟨by rw [upd_ne ne]; exact h1, h2.1, fun z => z.elim h2.2 ne⟩⟩
mutual
theorem PR.unhide {as : As} {p : Addr} : ∀ {v : V} {x : PV}, PR M (as.hide p) H v x → PR M as (del H p) v x
  | _, _, .non => .non
  | _, _, .bl b => .bl b
  | _, _, .int i => .int i
  | _, _, .str y => .str y
  | _, _, .tup h t => .tup ⟨h.1, h.2.imp (fun ⟨⟨o, d, e⟩, q⟩ => ⟨⟨o, d, by rw [del_ne fun z => q.2 (.inr z)]; exact e⟩, q.1, fun z => q.2 (.inl z)⟩) id⟩ (PRs.unhide t)
  | _, _, .lst ⟨z, e, q⟩ t => .lst ⟨z, by rw [del_ne fun z => q.2 (.inr z)]; exact e, q.1, fun z => q.2 (.inl z)⟩ (PRs.unhide t)
  | _, _, .fro h t => .fro ⟨h.1, h.2.imp (fun ⟨⟨o, e⟩, q⟩ => ⟨⟨o, by rw [del_ne fun z => q.2 (.inr z)]; exact e⟩, q.1, fun z => q.2 (.inl z)⟩) id⟩ (PRs.unhide t)
  | _, _, .glob h r => .glob h r
theorem PRs.unhide {as : As} {p : Addr} : ∀ {vs : List V} {ps : List PV}, PRs M (as.hide p) H vs ps → PRs M as (del H p) vs ps
  | _, _, .nil => .nil
  | _, _, .cons h t => .cons (PR.unhide h) (PRs.unhide t)
end
theorem SR.hide {o : HO} {p : Addr} (h : SR M as H S) (n : H p = none) : SR M (as.hide p) (upd H p o) S := by
  refine ⟨h.len, h.nd, fun a ha z => ?_, fun a ha => ?_, fun i a c e1 e2 => ?_⟩
  · rcases z with z | z
    · exact h.apart a ha z
    · subst z; exact (h.fresh n).1 ha
  · rcases ha with ha | ha
    · obtain ⟨u, e⟩ := h.hidd a ha
      exact ⟨u, by rw [upd_ne (ne_of_none e n)]; exact e⟩
    · subst ha; exact ⟨o, upd_same⟩
  · have q := h.cell i a c e1 e2
    have ne : a ≠ p := fun z => (h.fresh n).1 (by rw [← z]; exact List.mem_of_getElem? e1)
    cases c with
    | lst ps =>
      obtain ⟨vs, z, e, t⟩ := q
      exact ⟨vs, z, by rw [upd_ne ne]; exact e, t.hide n⟩
    | nst ks =>
      obtain ⟨vs, z, e, t⟩ := q
      exact ⟨vs, z, by rw [upd_ne ne]; exact e, t⟩
    | dct kvs =>
      obtain ⟨vs, z, e, t⟩ := q
      exact ⟨vs, z, by rw [upd_ne ne]; exact e, t.hide n⟩
    | fn =>
      obtain ⟨g, e⟩ := q
      exact ⟨g, by rw [upd_ne ne]; exact e⟩
    | tab x => exact ⟨q.1, tabN_exts q.2 (upd_ne ne) fun b g e => by rw [upd_ne (ne_of_none e n)]; exact e⟩
theorem SR.unhide {as : As} {p : Addr} (h : SR M (as.hide p) H S) (np : ¬ as.hid p) (hp : ∃ vs, H p = some (.lst vs)) : SR M as (del H p) S := by
  refine ⟨h.len, h.nd, fun a ha z => h.apart a ha (.inl z), fun a ha => ?_, fun i a c e1 e2 => ?_⟩
  · obtain ⟨u, e⟩ := h.hidd a (.inl ha)
    exact ⟨u, by rw [del_ne fun z => np (by rw [← z]; exact ha)]; exact e⟩
  · have q := h.cell i a c e1 e2
    have ne : a ≠ p := fun z => h.apart a (List.mem_of_getElem? e1) (.inr z)
    cases c with
    | lst ps =>
      obtain ⟨vs, z, e, t⟩ := q
      exact ⟨vs, z, by rw [del_ne ne]; exact e, t.unhide⟩
    | nst ks =>
      obtain ⟨vs, z, e, t⟩ := q
      exact ⟨vs, z, by rw [del_ne ne]; exact e, t⟩
    | dct kvs =>
      obtain ⟨vs, z, e, t⟩ := q
      exact ⟨vs, z, by rw [del_ne ne]; exact e, t.unhide⟩
    | fn =>
      obtain ⟨g, e⟩ := q
      exact ⟨g, by rw [del_ne ne]; exact e⟩
    | tab x => exact ⟨q.1, tabN_exts q.2 (del_ne ne) fun b g e => by
        rw [del_ne fun z => by
          obtain ⟨vs, hv⟩ := hp
          rw [z, hv] at e
          cases e]
        exact e⟩
theorem Ext.unhide {as as' : As} {p : Addr} {H H' : Hp} {o : HO} (n : H p = none) (np : ¬ as.hid p) (x : Ext (as.hide p) (upd H p o) as' H') : Ext as H ⟨as'.cells, as.hid⟩ (del H' p) ∧ as' = As.hide ⟨as'.cells, as.hid⟩ p ∧ H' p = some o := by
  have e1 : as' = As.hide ⟨as'.cells, as.hid⟩ p := by
    obtain ⟨c, h⟩ := as'
    have := x.hids
    simp only at this
    subst this
    rfl
  refine ⟨⟨x.more, rfl, fun a u e q => ?_, fun a u ha e => ?_, fun a g e => ?_⟩, e1, x.hkeep p o (.inr rfl) upd_same⟩
  · have ne : a ≠ p := ne_of_none e n
    obtain ⟨h1, h2⟩ := x.keep a u (by rw [upd_ne ne]; exact e) ⟨q.1, fun z => z.elim q.2 ne⟩
    rw [e1] at h2
    exact ⟨by rw [del_ne ne]; exact h1, h2.1, q.2⟩
  · have ne : a ≠ p := ne_of_none e n
    rw [del_ne ne]
    exact x.hkeep a u (.inl ha) (by rw [upd_ne ne]; exact e)
  · have ne : a ≠ p := ne_of_none e n
    rw [del_ne ne]
    exact x.exts a g (by rw [upd_ne ne]; exact e)
theorem ER.hide {o : HO} {p : Addr} (n : H p = none) (h : ER M as H σ δ) : ER M (as.hide p) (upd H p o) σ δ := ⟨h.len, fun i d e => by
  obtain ⟨v, q, r⟩ := h.get i d e
  refine ⟨v, q, ?_⟩
  cases d with
  | p x => exact PR.hide n r
  | c n => exact r⟩
/-- the items of a list or a tuple -/
def items : DV → AH → Option (List PV)
  | .p (.tup xs), _ => some xs
  | .p (.lst xs), _ => some xs
  | .p (.fro xs), _ => some xs
  | .c n, S => match S[n]? with
    | some (.lst xs) => some xs
    | _ => none
  | _, _ => none
theorem items_sq {d : DV} {v : V} {xs : List PV} (h : SR M as H S) (r : DVR M as H v d) (e : items d S = some xs) : ∃ a vs, v = .ref a ∧ vs.length ≤ sizeLine ∧ (SqL M.K H a vs ∨ SqT M.K H a vs) ∧ PRs M as H vs xs := by
  cases d with
  | p x =>
    cases x with
    | tup ys => cases e; cases r with | tup h t => exact ⟨_, _, rfl, h.1, .inr h.sq, t⟩
    | lst ys => cases e; cases r with | lst h t => exact ⟨_, _, rfl, h.1, .inl h.sq, t⟩
    | fro ys => cases e; cases r with | fro h t => exact ⟨_, _, rfl, h.1, .inl h.sq, t⟩
    | _ => cases e
  | c n =>
    obtain ⟨a, ea, rfl⟩ := r
    simp only [items] at e
    split at e
    · rename_i ys q
      cases e
      obtain ⟨b, vs, eb, z, hb, t⟩ := h.at q
      rw [ea] at eb; cases eb
      exact ⟨_, _, rfl, z, .inl (.of hb), t⟩
    · cases e
end

section
variable {M : Wd} {as : As} {H : Hp} {S : AH}
/-- the cells in a nest -/
def nitems : DV → AH → Option (List Nat)
  | .c n, S => match S[n]? with
    | some (.nst ks) => some ks
    | _ => none
  | _, _ => none
theorem nitems_sq {d : DV} {v : V} {ks : List Nat} (h : SR M as H S) (r : DVR M as H v d) (e : nitems d S = some ks) : ∃ a vs, v = .ref a ∧ vs.length ≤ sizeLine ∧ H a = some (.lst vs) ∧ KRs as vs ks := by
  cases d with
  | p x => cases e
  | c n =>
    obtain ⟨a, ea, rfl⟩ := r
    simp only [nitems] at e
    split at e
    · rename_i ys q
      cases e
      obtain ⟨b, vs, eb, z, hb, t⟩ := h.atN q
      rw [ea] at eb; cases eb
      exact ⟨_, _, rfl, z, hb, t⟩
    · cases e
theorem KRs.length {vs : List V} {ks : List Nat} (h : KRs as vs ks) : vs.length = ks.length := Paired.length h
theorem KRs.get : ∀ {vs : List V} {ks : List Nat} {i k : Nat}, KRs as vs ks → ks[i]? = some k → ∃ v, vs[i]? = some v ∧ ∃ b, as.cells[k]? = some b ∧ v = .ref b
  | _, _, i, k, .nil, e => by simp at e
  | _, _, 0, k, .cons h _, e => by simp at e; subst e; exact ⟨_, rfl, h⟩
  | _, _, i + 1, k, .cons _ t, e => by
    obtain ⟨v, h1, h2⟩ := KRs.get (i := i) (k := k) t (by simpa using e)
    exact ⟨v, by simpa using h1, h2⟩
theorem KRs.append : ∀ {vs ws : List V} {ks ls : List Nat}, KRs as vs ks → KRs as ws ls → KRs as (vs ++ ws) (ks ++ ls)
  | _, _, _, _, .nil, s => s
  | _, _, _, _, .cons r t, s => .cons r (KRs.append t s)
theorem KRs.set {v : V} {k : Nat} (r : ∃ b, as.cells[k]? = some b ∧ v = .ref b) : ∀ {vs : List V} {ks : List Nat} (i : Nat), KRs as vs ks → KRs as (vs.set i v) (ks.set i k)
  | _, _, _, .nil => .nil
  | _, _, 0, .cons _ t => .cons r t
  | _, _, i + 1, .cons q t => .cons q (KRs.set r i t)
end
/-! ### what is wanted behind a result -/
def ExR (M : Wd) (as : As) (H : Hp) (c : Str) (p : List (Str × PV)) (cls : Value) (dd : Option Addr) : Prop :=
  M.mg c = some cls ∧ (p = [] → dd = none) ∧ (p ≠ [] → ∃ d fs, dd = some d ∧ as.off d ∧ H d = some (.xd fs) ∧ Paired (fun (f : Str × V) (g : Str × PV) => f.1 = g.1 ∧ PR M as H f.2 g.2) fs p)
def WR {α β : Type} (M : Wd) (E : XK) (R : As → Hp → β → α → Prop) (as : As) (H : Hp) (r : Res α) (Q : β → Hp → Prop) : Prop := match r with
  | .ok a S' => ∀ as' H' b, Ext as H as' H' → SR M as' H' S' → R as' H' b a → Q b H'
  | .exc c p S' => ∀ as' H' cls dd, Ext as H as' H' → SR M as' H' S' → ExR M as' H' c p cls dd → E cls dd H'
  | .bad => False
section
variable {α β γ ε : Type} {M : Wd} {E : XK} {R : As → Hp → β → α → Prop} {R2 : As → Hp → ε → γ → Prop} {as as' : As} {H H' : Hp}
theorem WR.later {r : Res α} {Q : β → Hp → Prop} (x : Ext as H as' H') (w : WR M E R as H r Q) : WR M E R as' H' r Q := by
  cases r with
  | ok a S => exact fun as2 H2 b e => w as2 H2 b (x.trans e)
  | exc c p S => exact fun as2 H2 cls dd e => w as2 H2 cls dd (x.trans e)
  | bad => exact w
theorem WR.mono {r : Res α} {Q Q' : β → Hp → Prop} (w : WR M E R as H r Q) (h : ∀ a S as' H' b, r = .ok a S → Ext as H as' H' → SR M as' H' S → R as' H' b a → Q b H' → Q' b H') : WR M E R as H r Q' := by
  cases r with
  | ok a S => exact fun as2 H2 b e s q => h a S as2 H2 b rfl e s q (w as2 H2 b e s q)
  | exc c p S => exact w
  | bad => exact w
theorem WR.bind {r : Res α} {k : α → AH → Res γ} {Q : ε → Hp → Prop} (w : WR M E R2 as H (r.bind k) Q) :
    WR M E R as H r (fun b H1 => ∃ as1 S1 a, r = .ok a S1 ∧ Ext as H as1 H1 ∧ SR M as1 H1 S1 ∧ R as1 H1 b a ∧ WR M E R2 as1 H1 (k a S1) Q) := by
  cases r with
  | ok a S => exact fun as2 H2 b e s q => ⟨as2, S, a, rfl, e, s, q, WR.later e w⟩
  | exc c p S => exact w
  | bad => exact w
theorem WR.pure {a : α} {S : AH} {Q : β → Hp → Prop} (w : WR M E R as H (.ok a S) Q) {b : β} (s : SR M as H S) (r : R as H b a) : Q b H := w as H b (Ext.refl _ _) s r
end
end DL
namespace DL
noncomputable section
open PySem PySem.Spec PyProof.Rows L2

/-! ### judgements -/
abbrev wd (X : Cx) : Wd := ⟨X.K, X.mg⟩
def RB {β : Type} : As → Hp → β → β → Prop := fun _ _ a b => a = b
def tD (M : Wd) (E : L2.St → XK) (f : Sig → AH → Res DV) : TE := fun σ H Q => ∃ as δ S, SR M as H S ∧ ER M as H σ δ ∧ WR M (E σ) (DVR M) as H (f δ S) Q
def tDT (M : Wd) (E : L2.St → XK) (f : Sig → AH → Res Bool) : TT := fun σ H Q => ∃ as δ S, SR M as H S ∧ ER M as H σ δ ∧ WR M (E σ) RB as H (f δ S) Q
def tDA (M : Wd) (E : L2.St → XK) (f : Sig → AH → Res (List DV)) : TA := fun σ H Q => ∃ as δ S, SR M as H S ∧ ER M as H σ δ ∧ WR M (E σ) (DVRs M) as H (f δ S) Q
abbrev DE (X : Cx) (E : L2.St → XK) (e : Expr) (f : Sig → AH → Res DV) : Prop := PE X e (tD (wd X) E f)
abbrev DT (X : Cx) (E : L2.St → XK) (e : Expr) (f : Sig → AH → Res Bool) : Prop := PT X e (tDT (wd X) E f)
abbrev DW (X : Cx) (E : L2.St → XK) (e : Expr) (f : Sig → AH → Res Bool) : Prop := PW X e (tDT (wd X) E f)
abbrev DA (X : Cx) (E : L2.St → XK) (es : List Expr) (f : Sig → AH → Res (List DV)) : Prop := PA X es (tDA (wd X) E f)
theorem _root_.L2.PE.imp {X : Cx} {e : Expr} {t t' : TE} (h : PE X e t) (i : ∀ σ H Q, t' σ H Q → t σ H Q) : PE X e t' := ⟨fun pins s σ H Q I q => h.run pins s σ H Q I (i σ H Q q)⟩
theorem _root_.L2.PT.imp {X : Cx} {e : Expr} {t t' : TT} (h : PT X e t) (i : ∀ σ H Q, t' σ H Q → t σ H Q) : PT X e t' := ⟨fun pins s σ H Q I q => h.run pins s σ H Q I (i σ H Q q)⟩
theorem _root_.L2.PW.imp {X : Cx} {e : Expr} {t t' : TT} (h : PW X e t) (i : ∀ σ H Q, t' σ H Q → t σ H Q) : PW X e t' := ⟨fun wh pins s σ H Q I q => h.run wh pins s σ H Q I (i σ H Q q)⟩
theorem _root_.L2.PA.imp {X : Cx} {e : List Expr} {t t' : TA} (h : PA X e t) (i : ∀ σ H Q, t' σ H Q → t σ H Q) : PA X e t' := ⟨fun pos pins s σ H Q I q => h.run pos pins s σ H Q I (i σ H Q q)⟩

/-! ### operations on values -/
abbrev Op1 := DV → AH → Option (DV × AH)
abbrev Op2 := DV → DV → AH → Option (DV × AH)
abbrev OpN := List DV → AH → Option (DV × AH)
def lift {α : Type} : Option (α × AH) → Res α
  | some (d, S) => .ok d S
  | none => .bad
@[simp] theorem lift_some {α : Type} (d : α) (S : AH) : lift (some (d, S)) = .ok d S := rfl
@[simp] theorem lift_none {α : Type} : lift (none : Option (α × AH)) = .bad := rfl
def WO (M : Wd) (as : As) (H : Hp) (r : Option (DV × AH)) (Q : VK) : Prop := match r with
  | some (d, S') => ∀ as' H' b, Ext as H as' H' → SR M as' H' S' → DVR M as' H' b d → Q b H'
  | none => False
theorem WR.wo {M : Wd} {E : XK} {as : As} {H : Hp} {r : Option (DV × AH)} {Q : VK} (w : WR M E (DVR M) as H (lift r) Q) : WO M as H r Q := by
  cases r with
  | some p => exact w
  | none => exact w
def rO (M : Wd) (o : Op2) : R2 := fun x y H Q => ∃ as S d1 d2, SR M as H S ∧ DVR M as H x d1 ∧ DVR M as H y d2 ∧ WO M as H (o d1 d2 S) Q
def rO1 (M : Wd) (o : Op1) : V → Hp → VK → Prop := fun x H Q => ∃ as S d1, SR M as H S ∧ DVR M as H x d1 ∧ WO M as H (o d1 S) Q
def rON (M : Wd) (o : OpN) : List V → Hp → VK → Prop := fun vs H Q => ∃ as S ds, SR M as H S ∧ DVRs M as H vs ds ∧ WO M as H (o ds S) Q
/-- a value without a new object -/
theorem WO.here {M : Wd} {as : As} {H : Hp} {S : AH} {d : DV} {Q : VK} {v : V} (w : WO M as H (some (d, S)) Q) (s : SR M as H S) (r : DVR M as H v d) : Q v H := w as H v (Ext.refl _ _) s r
theorem WO.tup {M : Wd} {as : As} {H : Hp} {S : AH} {ps : List PV} {vs : List V} {Q : VK} (w : WO M as H (some (.p (.tup ps), S)) Q) (s : SR M as H S) (z : vs.length ≤ sizeLine) (r : PRs M as H vs ps) : NewT H Q vs := fun p o n d =>
  w as _ _ (ext_new s n) (s.new n) (.tup ⟨z, .inl ⟨⟨o, d, upd_same⟩, s.fresh n⟩⟩ (r.mono (ext_new s n).w))
theorem WO.lst {M : Wd} {as : As} {H : Hp} {S : AH} {ps : List PV} {vs : List V} {Q : VK} {p : Addr} (w : WO M as H (some (.p (.lst ps), S)) Q) (s : SR M as H S) (z : vs.length ≤ sizeLine) (r : PRs M as H vs ps) (n : H p = none) : Q (.ref p) (upd H p (.lst vs)) :=
  w as _ _ (ext_new s n) (s.new n) (.lst ⟨z, upd_same, s.fresh n⟩ (r.mono (ext_new s n).w))
/-- the items of a list -/
def lstOf : DV → AH → Option (List PV)
  | .p (.lst xs), _ => some xs
  | .c n, S => match S[n]? with
    | some (.lst xs) => some xs
    | _ => none
  | _, _ => none
theorem lstOf_at {M : Wd} {as : As} {H : Hp} {S : AH} {d : DV} {v : V} {xs : List PV} (h : SR M as H S) (r : DVR M as H v d) (e : lstOf d S = some xs) : ∃ a vs, v = .ref a ∧ vs.length ≤ sizeLine ∧ H a = some (.lst vs) ∧ PRs M as H vs xs := by
  cases d with
  | p x =>
    cases x with
    | lst ys => cases e; cases r with | lst h t => exact ⟨_, _, rfl, h.1, h.2.1, t⟩
    | _ => cases e
  | c n =>
    obtain ⟨a, ea, rfl⟩ := r
    simp only [lstOf] at e
    split at e
    · rename_i ys q
      cases e
      obtain ⟨b, vs, eb, z, hb, t⟩ := h.at q
      rw [ea] at eb; cases eb
      exact ⟨_, _, rfl, z, hb, t⟩
    · cases e
def addO : Op2 := fun a b S => match a, b with
  | .p (.int i), .p (.int j) => some (.p (.int (i + j)), S)
  | .p (.str x), .p (.str y) => if x.length + y.length ≤ sizeLine then some (.p (.str (x ++ y)), S) else none
  | .p (.tup xs), .p (.tup ys) => if xs.length + ys.length ≤ sizeLine then some (.p (.tup (xs ++ ys)), S) else none
  | _, _ => match lstOf a S, lstOf b S with
    | some xs, some ys => if xs.length + ys.length ≤ sizeLine then some (.p (.lst (xs ++ ys)), S) else none
    | _, _ => none
def subO : Op2 := fun a b S => match a, b with
  | .p (.int i), .p (.int j) => some (.p (.int (i - j)), S)
  | _, _ => none
def mulOk (i j : Int) : Prop := ((-(2 ^ 64) < i ∧ i < 2 ^ 64) ∨ (-(2 ^ 64) < j ∧ j < 2 ^ 64)) ∨ i.natAbs.log2 + j.natAbs.log2 < 1000000
noncomputable instance (i j : Int) : Decidable (mulOk i j) := Classical.propDecidable _
def mulO : Op2 := fun a b S => match a, b with
  | .p (.int i), .p (.int j) => if mulOk i j then some (.p (.int (i * j)), S) else none
  | .p (.tup xs), .p (.int k) => if xs ≠ [] ∧ 2 ≤ k ∧ k ≤ 1000 ∧ xs.length ≤ 1000 then some (.p (.tup (List.replicate k.toNat xs).flatten), S) else none
  | _, _ => none
def divOk (j : Int) : Prop := 0 < j ∧ j.natAbs.log2 < 9000
noncomputable instance (j : Int) : Decidable (divOk j) := Classical.propDecidable _
def divO : Op2 := fun a b S => match a, b with
  | .p (.int i), .p (.int j) => if divOk j then some (.p (.int (i / j)), S) else none
  | _, _ => none
def modO : Op2 := fun a b S => match a, b with
  | .p (.int i), .p (.int j) => if 0 < j then some (.p (.int (i % j)), S) else none
  | _, _ => none
def powOk (i j : Int) : Prop := 0 ≤ j ∧ j ≤ 1000000 ∧ i.natAbs < 2 ^ 64
noncomputable instance (i j : Int) : Decidable (powOk i j) := Classical.propDecidable _
def powO : Op2 := fun a b S => match a, b with
  | .p (.int i), .p (.int j) => if powOk i j then some (.p (.int (i ^ j.toNat)), S) else none
  | _, _ => none
section
variable {X : Cx}
theorem ow_add : OpR X (binaryOp .Add) (rO (wd X) addO) := by
  intro pins s σ H x y v u Q I rx ry h
  obtain ⟨as, S, d1, d2, sr, r1, r2, w⟩ := h
  unfold addO at w
  split at w
  · cases r1; cases r2
    exact op_add pins s σ H _ _ v u Q I rx ry ⟨_, _, rfl, rfl, w.here sr (.int _)⟩
  · cases r1; cases r2
    split at w
    · rename_i z
      exact op_add_str pins s σ H _ _ v u Q I rx ry ⟨_, _, rfl, rfl, z, w.here sr (.str _)⟩
    · exact w.elim
  · cases r1 with
    | tup h1 t1 =>
      cases r2 with
      | tup h2 t2 =>
        split at w
        · rename_i z
          have z2 : _ ≤ _ := z
          rw [← t1.length, ← t2.length] at z2
          refine op_catZ pins s σ H _ _ v u Q I rx ry ⟨_, _, _, _, rfl, rfl, h1.sq, h2.sq, z2, fun e => ?_, fun e e2 => ?_, fun e e2 => ?_⟩
          · subst e
            cases t1
            exact w.here sr (.tup h2 t2)
          · subst e2
            cases t2
            rw [List.append_nil] at w
            exact w.here sr (.tup h1 t1)
          · exact w.tup sr (by rw [List.length_append]; exact z2) (t1.append t2)
        · exact w.elim
  · split at w
    · rename_i xs ys e1 e2
      obtain ⟨a, vs, rfl, z1, h1, t1⟩ := lstOf_at sr r1 e1
      obtain ⟨b, ws, rfl, z2, h2, t2⟩ := lstOf_at sr r2 e2
      split at w
      · rename_i z
        rw [← t1.length, ← t2.length] at z
        exact op_cat pins s σ H _ _ v u Q I rx ry ⟨_, _, _, _, rfl, rfl, h1, h2, z, fun p n => w.lst sr (by rw [List.length_append]; exact z) (t1.append t2) n⟩
      · exact w.elim
    · exact w.elim
theorem ow_sub : OpR X (binaryOp .Sub) (rO (wd X) subO) := by
  intro pins s σ H x y v u Q I rx ry h
  obtain ⟨as, S, d1, d2, sr, r1, r2, w⟩ := h
  unfold subO at w
  split at w
  · cases r1; cases r2
    exact op_sub pins s σ H _ _ v u Q I rx ry ⟨_, _, rfl, rfl, w.here sr (.int _)⟩
  · exact w.elim
theorem PRs.rep {M : Wd} {as : As} {H : Hp} {vs : List V} {ps : List PV} (h : PRs M as H vs ps) : ∀ k : Nat, PRs M as H (List.replicate k vs).flatten (List.replicate k ps).flatten
  | 0 => .nil
  | k + 1 => by
    rw [List.replicate_succ, List.replicate_succ, List.flatten_cons, List.flatten_cons]
    exact PRs.append h (PRs.rep h k)
theorem ow_mul : OpR X (binaryOp .Mult) (rO (wd X) mulO) := by
  intro pins s σ H x y v u Q I rx ry h
  obtain ⟨as, S, d1, d2, sr, r1, r2, w⟩ := h
  unfold mulO at w
  split at w
  · cases r1; cases r2
    split at w
    · rename_i z
      rcases z with z | z
      · exact op_mul pins s σ H _ _ v u Q I rx ry ⟨_, _, rfl, rfl, z, w.here sr (.int _)⟩
      · exact op_mulW pins s σ H _ _ v u Q I rx ry ⟨_, _, rfl, rfl, z, w.here sr (.int _)⟩
    · exact w.elim
  · cases r2
    cases r1 with
    | tup h1 t1 =>
      split at w
      · rename_i z
        obtain ⟨z1, z2, z3, z4⟩ := z
        have hl := t1.length
        refine op_repZ pins s σ H _ _ v u Q I rx ry ⟨_, _, _, rfl, rfl, h1.sq, fun e => ?_, z2, z3, by omega, w.tup sr ?_ (t1.rep _)⟩
        · subst e
          cases t1
          exact z1 rfl
        · rw [PyProof.Rows.lm_len_rep_flat, sizeLine_eq]
          refine Nat.le_trans (m := 1000 * 1000) (Nat.mul_le_mul ?_ ?_) (by decide)
          · omega
          · omega
      · exact w.elim
  · exact w.elim
theorem ow_div : OpR X (binaryOp .FloorDiv) (rO (wd X) divO) := by
  intro pins s σ H x y v u Q I rx ry h
  obtain ⟨as, S, d1, d2, sr, r1, r2, w⟩ := h
  unfold divO at w
  split at w
  · cases r1; cases r2
    split at w
    · rename_i z
      exact op_fdivW pins s σ H _ _ v u Q I rx ry ⟨_, _, rfl, rfl, z, w.here sr (.int _)⟩
    · exact w.elim
  · exact w.elim
theorem ow_mod : OpR X (binaryOp .Mod) (rO (wd X) modO) := by
  intro pins s σ H x y v u Q I rx ry h
  obtain ⟨as, S, d1, d2, sr, r1, r2, w⟩ := h
  unfold modO at w
  split at w
  · cases r1; cases r2
    split at w
    · rename_i z
      exact op_mod pins s σ H _ _ v u Q I rx ry ⟨_, _, rfl, rfl, z, w.here sr (.int _)⟩
    · exact w.elim
  · exact w.elim
theorem ow_pow : OpR X (binaryOp .Pow) (rO (wd X) powO) := by
  intro pins s σ H x y v u Q I rx ry h
  obtain ⟨as, S, d1, d2, sr, r1, r2, w⟩ := h
  unfold powO at w
  split at w
  · cases r1; cases r2
    split at w
    · rename_i z
      exact op_pow pins s σ H _ _ v u Q I rx ry ⟨_, _, rfl, rfl, z, w.here sr (.int _)⟩
    · exact w.elim
  · exact w.elim
def negO : Op1 := fun a S => match a with
  | .p (.int i) => some (.p (.int (-i)), S)
  | _ => none
theorem ow_neg : UnR X (unaryOp .USub) (rO1 (wd X) negO) := by
  intro pins s σ H x v Q I rx h
  obtain ⟨as, S, d1, sr, r1, w⟩ := h
  unfold negO at w
  split at w
  · cases r1
    exact un_neg pins s σ H _ v Q I rx ⟨_, rfl, w.here sr (.int _)⟩
  · exact w.elim
end

/-! ### comparisons -/
def cmpO (p : Int → Int → Bool) : Op2 := fun a b S => match a, b with
  | .p (.int i), .p (.int j) => some (.p (.bl (p i j)), S)
  | _, _ => none
mutual
/-- a value as data -/
def PV.data : PV → Option PyData
  | .non => some .none
  | .bl b => some (.bool b)
  | .int i => some (.int i)
  | .str x => some (.str x)
  | .tup xs => (PV.datas xs).map .tuple
  | .lst xs => (PV.datas xs).map .list
  | .fro xs => (PV.datas xs).map .list
  | .glob _ => none
def PV.datas : List PV → Option (List PyData)
  | [] => some []
  | x :: xs => (PV.data x).bind fun d => (PV.datas xs).map fun ds => d :: ds
end
def eqDat (d e : PyData) : Option Bool := if SeqAt.shaped d = true ∧ SeqAt.shaped e = true then some (PyData.eqv d e) else none
def dataOf : DV → AH → Option PyData
  | .p x, _ => x.data
  | .c n, S => match S[n]? with
    | some (.lst xs) => (PV.datas xs).map .list
    | _ => none
def eqO : Op2 := fun a b S => match dataOf a S, dataOf b S with
  | some d, some e => (eqDat d e).map fun k => (.p (.bl k), S)
  | _, _ => none
def neO : Op2 := fun a b S => match dataOf a S, dataOf b S with
  | some d, some e => (eqDat d e).map fun k => (.p (.bl (!k)), S)
  | _, _ => none
def isO : Op2 := fun a b S => match a, b with
  | .p x, .p .non => match x with
    | .non => some (.p (.bl true), S)
    | .glob _ => none
    | _ => some (.p (.bl false), S)
  | .p (.bl a), .p (.bl b) => some (.p (.bl (decide (a = b))), S)
  | _, _ => none
def isNotO : Op2 := fun a b S => match a, b with
  | .p x, .p .non => match x with
    | .non => some (.p (.bl false), S)
    | .glob _ => none
    | _ => some (.p (.bl true), S)
  | .p (.bl a), .p (.bl b) => some (.p (.bl (!decide (a = b))), S)
  | _, _ => none
section
variable {X : Cx}
theorem ow_cmp {op : CmpOp} {p : Int → Int → Bool} (h0 : OpR X (compareOp op) (rI0 fun i j => .bl (p i j))) : OpR X (compareOp op) (rO (wd X) (cmpO p)) := by
  intro pins s σ H x y v u Q I rx ry h
  obtain ⟨as, S, d1, d2, sr, r1, r2, w⟩ := h
  unfold cmpO at w
  split at w
  · cases r1; cases r2
    exact h0 pins s σ H _ _ v u Q I rx ry ⟨_, _, rfl, rfl, w.here sr (.bl _)⟩
  · exact w.elim
theorem ow_lt : OpR X (compareOp .Lt) (rO (wd X) (cmpO fun i j => decide (i < j))) := ow_cmp op_lt
theorem ow_le : OpR X (compareOp .LtE) (rO (wd X) (cmpO fun i j => decide (i ≤ j))) := ow_cmp op_le
theorem ow_gt : OpR X (compareOp .Gt) (rO (wd X) (cmpO fun i j => decide (j < i))) := ow_cmp op_gt
theorem ow_ge : OpR X (compareOp .GtE) (rO (wd X) (cmpO fun i j => decide (j ≤ i))) := ow_cmp op_ge
end
section
variable {M : Wd} {as : As} {H : Hp}
mutual
theorem PR.dp : ∀ {v : V} {p : PV} {d : PyData}, PR M as H v p → p.data = some d → Dp M.K H v d
  | _, _, _, .non, e => by simp [PV.data] at e; subst e; exact .non
  | _, _, _, .bl b, e => by simp [PV.data] at e; subst e; exact .bl b
  | _, _, _, .int i, e => by simp [PV.data] at e; subst e; exact .int i
  | _, _, _, .str x, e => by simp [PV.data] at e; subst e; exact .str x
  | _, _, _, .tup h t, e => by
    simp only [PV.data, Option.map_eq_some_iff] at e
    obtain ⟨ds, e1, rfl⟩ := e
    exact .tup h.sq (PRs.dp t e1)
  | _, _, _, .lst h t, e => by
    simp only [PV.data, Option.map_eq_some_iff] at e
    obtain ⟨ds, e1, rfl⟩ := e
    exact .lst h.sq (PRs.dp t e1)
  | _, _, _, .fro h t, e => by
    simp only [PV.data, Option.map_eq_some_iff] at e
    obtain ⟨ds, e1, rfl⟩ := e
    exact .lst h.sq (PRs.dp t e1)
  | _, _, _, .glob _ _, e => by simp [PV.data] at e
theorem PRs.dp : ∀ {vs : List V} {ps : List PV} {ds : List PyData}, PRs M as H vs ps → PV.datas ps = some ds → DpAll M.K H vs ds
  | _, _, _, .nil, e => by simp [PV.datas] at e; subst e; exact .nil
  | _, _, _, .cons h t, e => by
    simp only [PV.datas, Option.bind_eq_some_iff, Option.map_eq_some_iff] at e
    obtain ⟨d, e1, ds, e2, rfl⟩ := e
    exact .cons (PR.dp h e1) (PRs.dp t e2)
end
theorem dataOf_dp {S : AH} (sr : SR M as H S) {v : V} {d : DV} {x : PyData} (r : DVR M as H v d) (e : dataOf d S = some x) : Dp M.K H v x := by
  cases d with
  | p y => exact PR.dp r e
  | c n =>
    obtain ⟨a, ea, rfl⟩ := r
    simp only [dataOf] at e
    split at e
    · rename_i xs q
      obtain ⟨b, vs, eb, z, hb, t⟩ := sr.at q
      rw [ea] at eb; cases eb
      simp only [Option.map_eq_some_iff] at e
      obtain ⟨ds, e1, rfl⟩ := e
      exact .lst (.of hb) (PRs.dp t e1)
    · cases e
end
section
variable {X : Cx}
theorem ow_eq (hu : X.A.units + 64 < cLine) : OpR X (compareOp .Eq) (rO (wd X) eqO) := by
  intro pins s σ H x y v u Q I rx ry h
  obtain ⟨as, S, d1, d2, sr, r1, r2, w⟩ := h
  unfold eqO at w
  split at w
  · rename_i d e q1 q2
    unfold eqDat at w
    split at w
    · rename_i z
      exact op_eqD hu pins s σ H _ _ v u Q I rx ry ⟨d, e, dataOf_dp sr r1 q1, dataOf_dp sr r2 q2, z.1, z.2, w.here sr (.bl _)⟩
    · exact w.elim
  · exact w.elim
theorem ow_ne (hu : X.A.units + 64 < cLine) : OpR X (compareOp .NotEq) (rO (wd X) neO) := by
  intro pins s σ H x y v u Q I rx ry h
  obtain ⟨as, S, d1, d2, sr, r1, r2, w⟩ := h
  unfold neO at w
  split at w
  · rename_i d e q1 q2
    unfold eqDat at w
    split at w
    · rename_i z
      exact op_neD hu pins s σ H _ _ v u Q I rx ry ⟨d, e, dataOf_dp sr r1 q1, dataOf_dp sr r2 q2, z.1, z.2, w.here sr (.bl _)⟩
    · exact w.elim
  · exact w.elim
theorem PR.nonD {M : Wd} {as : As} {H : Hp} {v : V} {p : PV} (r : PR M as H v p) (n1 : p ≠ .non) (n2 : ∀ g, p ≠ .glob g) : v ≠ .non := by
  cases r with
  | non => exact absurd rfl n1
  | glob _ _ => exact absurd rfl (n2 _)
  | _ => exact fun z => nomatch z
theorem ow_is : OpR X (compareOp .Is) (rO (wd X) isO) := by
  intro pins s σ H x y v u Q I rx ry h
  obtain ⟨as, S, d1, d2, sr, r1, r2, w⟩ := h
  unfold isO at w
  split at w
  · cases r2
    split at w
    · cases r1
      exact op_isN pins s σ H _ _ v u Q I rx ry ⟨rfl, w.here sr (.bl _)⟩
    · exact w.elim
    · rename_i n1 n2
      have e := PR.nonD r1 (fun z => n1 z) (fun g z => n2 g z)
      refine op_isN pins s σ H _ _ v u Q I rx ry ⟨rfl, ?_⟩
      rw [decide_eq_false e]
      exact w.here sr (.bl _)
  · cases r1; cases r2
    exact op_isBl pins s σ H _ _ v u Q I rx ry ⟨_, _, rfl, rfl, w.here sr (.bl _)⟩
  · exact w.elim
theorem ow_isNot : OpR X (compareOp .IsNot) (rO (wd X) isNotO) := by
  intro pins s σ H x y v u Q I rx ry h
  obtain ⟨as, S, d1, d2, sr, r1, r2, w⟩ := h
  unfold isNotO at w
  split at w
  · cases r2
    split at w
    · cases r1
      exact op_notN pins s σ H _ _ v u Q I rx ry ⟨rfl, w.here sr (.bl _)⟩
    · exact w.elim
    · rename_i n1 n2
      have e := PR.nonD r1 (fun z => n1 z) (fun g z => n2 g z)
      refine op_notN pins s σ H _ _ v u Q I rx ry ⟨rfl, ?_⟩
      rw [decide_eq_false e]
      exact w.here sr (.bl _)
  · cases r1; cases r2
    exact op_notBl pins s σ H _ _ v u Q I rx ry ⟨_, _, rfl, rfl, w.here sr (.bl _)⟩
  · exact w.elim
end

/-! ### expressions -/
def dVar (i : Nat) : Sig → AH → Res DV := fun δ S => match δ[i]? with
  | some (some d) => .ok d S
  | _ => .bad
def dC (v : PV) : Sig → AH → Res DV := fun _ S => .ok (.p v) S
def dUn (o : Op1) (fa : Sig → AH → Res DV) : Sig → AH → Res DV := fun δ S => (fa δ S).bind fun a S => lift (o a S)
def dBin (o : Op2) (fa fb : Sig → AH → Res DV) : Sig → AH → Res DV := fun δ S => (fa δ S).bind fun a S => (fb δ S).bind fun b S => lift (o a b S)
def dNil : Sig → AH → Res (List DV) := fun _ S => .ok [] S
def dCons (fa : Sig → AH → Res DV) (fr : Sig → AH → Res (List DV)) : Sig → AH → Res (List DV) := fun δ S => (fa δ S).bind fun a S => (fr δ S).bind fun r S => .ok (a :: r) S
def dApp (o : OpN) (fa : Sig → AH → Res (List DV)) : Sig → AH → Res DV := fun δ S => (fa δ S).bind fun ds S => lift (o ds S)
section
variable {X : Cx} {E : L2.St → XK} {a b c : Expr} {es : List Expr} {pos : Pos} {fa fb fc : Sig → AH → Res DV} {fs : Sig → AH → Res (List DV)}
theorem de_var (i : Nat) {x : Str} (hN : X.N[i]? = some x := by rfl) (hv : Vis X.env.scope x := by first | exact Or.inl rfl | exact Or.inr (Or.inl rfl) | exact Or.inr (Or.inr rfl)) (hd : (x == ("__debug__" : Str)) = false := by decide)
    (hcd : (x == ("__classdict__" : Str)) = false := by decide) : DE X E (.Name x pos) (dVar i) := (pe_var hN hv hd hcd).imp fun σ H Q ⟨as, δ, S, sr, er, w⟩ => by
  unfold dVar at w
  split at w
  · rename_i d e
    obtain ⟨v, q, r⟩ := er.get i d e
    exact ⟨v, q, w.pure sr r⟩
  · exact w.elim
theorem de_con {v : V} {p : PV} (h : PE X a (tC v)) (r : ∀ as H, PR (wd X) as H v p) : DE X E a (dC p) := h.imp fun σ H Q ⟨as, δ, S, sr, er, w⟩ => WR.pure (b := v) w sr (r as H)
theorem de_int {i j} : DE X E (.Constant (.int i) j pos) (dC (.int i)) := de_con pe_int fun _ _ => .int _
theorem de_bl {i j} : DE X E (.Constant (.bool i) j pos) (dC (.bl i)) := de_con pe_bl fun _ _ => .bl _
theorem de_non {j} : DE X E (.Constant .none j pos) (dC .non) := de_con pe_non fun _ _ => .non
theorem de_str {x j} : DE X E (.Constant (.str x) j pos) (dC (.str x)) := de_con pe_str fun _ _ => .str _
/-- a constant of the module -/
theorem de_gint {x : Str} {i : Int} {t : Tok} (hg : Gl X x) (hm : X.mg x = some (.int i t)) (hd : (x == ("__debug__" : Str)) = false := by decide) : DE X E (.Name x pos) (dC (.int i)) := de_con (pe_glob (v := .int i) hg hm ⟨_, rfl⟩ hd) fun _ _ => .int _
/-- a def or a class of the module as a value -/
theorem de_glob {x : Str} {p : Addr} (hg : Gl X x) (hm : X.mg x = some (.ref p)) (hd : (x == ("__debug__" : Str)) = false := by decide) : DE X E (.Name x pos) (dC (.glob x)) := de_con (pe_glob (v := .ref p) hg hm rfl hd) fun _ _ => .glob hm rfl
theorem de_un {op : UnaryOp} {o : Op1} (ho : UnR X (unaryOp op) (rO1 (wd X) o)) (ha : DE X E a fa) : DE X E (.UnaryOp op a pos) (dUn o fa) := (pe_un ho ha).imp fun σ H Q ⟨as, δ, S, sr, er, w⟩ =>
  ⟨as, δ, S, sr, er, w.bind.mono fun _ _ _ _ _ _ _ _ _ ⟨as1, S1, d1, _, x1, s1, r1, w1⟩ => ⟨as1, S1, d1, s1, r1, w1.wo⟩⟩
theorem t2 {o : Op2} {σ : L2.St} {H : Hp} {Q : VK} {as : As} {δ : Sig} {S : AH} (sr : SR (wd X) as H S) (er : ER (wd X) as H σ δ) (w : WR (wd X) (E σ) (DVR (wd X)) as H (dBin o fa fb δ S) Q) : tOp (rO (wd X) o) (tD (wd X) E fa) (tD (wd X) E fb) σ H Q :=
  ⟨as, δ, S, sr, er, w.bind.mono fun _ _ _ _ _ _ _ _ _ ⟨as1, S1, d1, _, x1, s1, r1, w1⟩ => ⟨as1, δ, S1, s1, er.mono x1.w, w1.bind.mono fun _ _ _ _ _ _ _ _ _ ⟨as2, S2, d2, _, x2, s2, r2, w2⟩ => ⟨as2, S2, d1, d2, s2, r1.mono x2.w, r2, w2.wo⟩⟩⟩
theorem de_bin {op : Operator} {o : Op2} (ho : OpR X (binaryOp op) (rO (wd X) o)) (ha : DE X E a fa) (hb : DE X E b fb) : DE X E (.BinOp a op b pos) (dBin o fa fb) := (pe_op ho ha hb).imp fun σ H Q ⟨as, δ, S, sr, er, w⟩ => t2 sr er w
theorem de_cmp {op : CmpOp} {o : Op2} (ho : OpR X (compareOp op) (rO (wd X) o)) (ha : DE X E a fa) (hb : DE X E b fb) (hm : behindInMarks op b = false) : DE X E (.Compare a [op] [b] pos) (dBin o fa fb) := (pe_cmpR ho ha hb hm).imp fun σ H Q ⟨as, δ, S, sr, er, w⟩ => t2 sr er w
theorem da_nil : DA X E [] dNil := pa_nil.imp fun σ H Q ⟨as, δ, S, sr, er, w⟩ => WR.pure (b := ([] : List V)) w sr .nil
theorem da_cons (ha : DE X E a fa) (hr : DA X E es fs) (hs : starEach (a :: es) X.env = (false, eval a X.env) :: starEach es X.env := by rfl) : DA X E (a :: es) (dCons fa fs) := (pa_cons ha hr hs).imp fun σ H Q ⟨as, δ, S, sr, er, w⟩ =>
  ⟨as, δ, S, sr, er, w.bind.mono fun x _ _ _ _ _ _ _ _ ⟨as1, S1, d1, _, x1, s1, r1, w1⟩ => ⟨as1, δ, S1, s1, er.mono x1.w, w1.bind.mono fun _ _ _ _ _ _ _ _ _ ⟨as2, S2, ds, _, x2, s2, r2, w2⟩ => WR.pure w2 s2 (.cons (r1.mono x2.w) r2)⟩⟩
end
end
end DL
namespace DL
noncomputable section
open PySem PySem.Spec PyProof.Rows L2

/-! ### truth -/
def truD : DV → AH → Option Bool
  | .p .non, _ => some false
  | .p (.bl b), _ => some b
  | .p (.int i), _ => some (i != 0)
  | .p (.str x), _ => if x.length ≤ sizeLine then some ((x.length : Int) != 0) else none
  | d, S => (items d S).map fun xs => !xs.isEmpty
section
variable {M : Wd} {as : As} {H : Hp} {S : AH}
theorem truD_ok {d : DV} {v : V} {k : Bool} (h : SR M as H S) (r : DVR M as H v d) (e : truD d S = some k) : TruV M.K v H k := by
  have gen : ∀ {d : DV} {v : V} {k : Bool}, DVR M as H v d → (items d S).map (fun xs => !xs.isEmpty) = some k → TruV M.K v H k := fun {d v k} r e => by
    simp only [Option.map_eq_some_iff] at e
    obtain ⟨xs, e1, rfl⟩ := e
    obtain ⟨a, vs, rfl, z, q, t⟩ := items_sq h r e1
    have hh : xs.isEmpty = vs.isEmpty := by cases t <;> rfl
    rcases q with q | q
    · exact .inl ⟨vs, q, by rw [hh]⟩
    · exact .inr (.inl ⟨vs, q, by rw [hh]⟩)
  cases d with
  | c n => exact gen r e
  | p x =>
    cases x with
    | non => cases r; simp [truD] at e; subst e; rfl
    | bl b => cases r; simp [truD] at e; subst e; rfl
    | int i => cases r; simp only [truD, Option.some.injEq] at e; subst e; rfl
    | str x =>
      cases r
      simp only [truD] at e
      split at e
      · rename_i z
        cases e
        exact ⟨z, rfl⟩
      · cases e
    | glob n => simp [truD, items] at e
    | tup _ => exact gen r e
    | lst _ => exact gen r e
    | fro _ => exact gen r e
end
def dTru (fa : Sig → AH → Res DV) : Sig → AH → Res Bool := fun δ S => (fa δ S).bind fun a S => lift ((truD a S).map fun k => (k, S))
def dNot (fa : Sig → AH → Res Bool) : Sig → AH → Res Bool := fun δ S => (fa δ S).bind fun a S => .ok (!a) S
def dAnd (fa fb : Sig → AH → Res Bool) : Sig → AH → Res Bool := fun δ S => (fa δ S).bind fun a S => if a = true then fb δ S else .ok false S
def dOr (fa fb : Sig → AH → Res Bool) : Sig → AH → Res Bool := fun δ S => (fa δ S).bind fun a S => if a = true then .ok true S else fb δ S
def dAndV (fa fb : Sig → AH → Res DV) : Sig → AH → Res DV := fun δ S => (fa δ S).bind fun a S => match truD a S with
  | some k => if k = true then fb δ S else .ok a S
  | none => .bad
def dOrV (fa fb : Sig → AH → Res DV) : Sig → AH → Res DV := fun δ S => (fa δ S).bind fun a S => match truD a S with
  | some k => if k = true then .ok a S else fb δ S
  | none => .bad
def dNotV (fa : Sig → AH → Res DV) : Sig → AH → Res DV := fun δ S => (fa δ S).bind fun a S => lift ((truD a S).map fun k => (.p (.bl (!k)), S))
def dIte (fc : Sig → AH → Res Bool) (fa fb : Sig → AH → Res DV) : Sig → AH → Res DV := fun δ S => (fc δ S).bind fun c S => if c = true then fa δ S else fb δ S
/-- a op1 b op2 c -/
def dChain (o o' : Op2) (fa fb fc : Sig → AH → Res DV) : Sig → AH → Res DV := fun δ S => (fa δ S).bind fun a S => (fb δ S).bind fun b S => (lift (o a b S)).bind fun k S => match k with
  | .p (.bl true) => (fc δ S).bind fun c S => lift (o' b c S)
  | .p (.bl false) => .ok (.p (.bl false)) S
  | _ => .bad
def blOf (fa : Sig → AH → Res DV) : Sig → AH → Res Bool := fun δ S => (fa δ S).bind fun a S => match a with
  | .p (.bl k) => .ok k S
  | _ => .bad
section
variable {X : Cx} {E : L2.St → XK} {a b c : Expr} {es rest : List Expr} {pos : Pos} {fa fb fc : Sig → AH → Res DV} {ga gb : Sig → AH → Res Bool} {fs : Sig → AH → Res (List DV)}
theorem dt_tru (ha : DE X E a fa) (he : ∀ whole, isTrue a X.env whole = (do let v ← whole; standAt a.pos; holding [v] (truthy v)) := by intro _; rfl) : DT X E a (dTru fa) := (pt_truth ha he).imp fun σ H Q ⟨as, δ, S, sr, er, w⟩ =>
  ⟨as, δ, S, sr, er, w.bind.mono fun _ _ _ _ _ _ _ _ _ ⟨as1, S1, d1, _, x1, s1, r1, w1⟩ => by
    cases e : truD d1 S1 with
    | none => rw [e] at w1; exact w1.elim
    | some k =>
      rw [e] at w1
      exact ⟨k, truD_ok s1 r1 e, WR.pure (b := k) w1 s1 rfl⟩⟩
theorem dt_cmp {op : CmpOp} {o : Op2} (ho : OpR X (compareOp op) (rO (wd X) o)) (ha : DE X E a fa) (hb : DE X E b fb) (hm : behindInMarks op b = false) : DT X E (.Compare a [op] [b] pos) (blOf (dBin o fa fb)) := (pt_cmpR ho ha hb hm).imp fun σ H Q ⟨as, δ, S, sr, er, w⟩ => by
  refine t2 (Q := fun x H' => ∃ k, x = .bl k ∧ Q k H') sr er (w.bind.mono fun d _ _ _ x _ _ _ _ ⟨as1, S1, d1, _, x1, s1, r1, w1⟩ => ?_)
  split at w1
  · cases r1
    exact ⟨_, rfl, WR.pure (b := _) w1 s1 rfl⟩
  · exact w1.elim
theorem chain_t {o o' : Op2} {σ : L2.St} {H : Hp} {Q : VK} {as : As} {δ : Sig} {S : AH} (sr : SR (wd X) as H S) (er : ER (wd X) as H σ δ) (w : WR (wd X) (E σ) (DVR (wd X)) as H (dChain o o' fa fb fc δ S) Q) : tChain (rO (wd X) o) (rO (wd X) o') (tD (wd X) E fa) (tD (wd X) E fb) (tD (wd X) E fc) σ H Q := by
  refine ⟨as, δ, S, sr, er, w.bind.mono fun _ _ _ _ x _ _ _ _ ⟨as1, S1, d1, _, x1, s1, r1, w1⟩ => ?_⟩
  refine ⟨as1, δ, S1, s1, er.mono x1.w, w1.bind.mono fun _ _ _ _ y _ _ _ _ ⟨as2, S2, d2, _, x2, s2, r2, w2⟩ => ?_⟩
  refine ⟨as2, S2, d1, d2, s2, r1.mono x2.w, r2, ?_⟩
  have w2' := w2.bind (R := DVR (wd X))
  refine (WR.wo (E := E σ) (w2'.mono fun _ _ _ _ z _ _ _ _ ⟨as3, S3, d3, _, x3, s3, r3, w3⟩ => ?_))
  split at w3
  · cases r3
    refine ⟨true, rfl, ?_⟩
    rw [if_pos rfl]
    exact ⟨as3, δ, S3, s3, ((er.mono x1.w).mono x2.w).mono x3.w, w3.bind.mono fun _ _ _ _ _ _ _ _ _ ⟨as4, S4, d4, _, x4, s4, r4, w4⟩ => ⟨as4, S4, d2, d4, s4, (r2.mono x3.w).mono x4.w, r4, w4.wo⟩⟩
  · cases r3
    refine ⟨false, rfl, ?_⟩
    rw [if_neg Bool.false_ne_true]
    exact WR.pure w3 s3 (.bl false)
  · exact w3.elim
theorem de_chain {op op' : CmpOp} {o o' : Op2} (ho : OpR X (compareOp op) (rO (wd X) o)) (ho' : OpR X (compareOp op') (rO (wd X) o')) (ha : DE X E a fa) (hb : DE X E b fb) (hc : DE X E c fc)
    (hm : lastMarks [op, op'] [b, c] = false := by with_unfolding_all rfl) : DE X E (.Compare a [op, op'] [b, c] pos) (dChain o o' fa fb fc) := (pe_chain ho ho' ha hb hc hm).imp fun σ H Q ⟨as, δ, S, sr, er, w⟩ => chain_t sr er w
theorem dt_chain {op op' : CmpOp} {o o' : Op2} (ho : OpR X (compareOp op) (rO (wd X) o)) (ho' : OpR X (compareOp op') (rO (wd X) o')) (ha : DE X E a fa) (hb : DE X E b fb) (hc : DE X E c fc)
    (hm : lastMarks [op, op'] [b, c] = false := by with_unfolding_all rfl) : DT X E (.Compare a [op, op'] [b, c] pos) (blOf (dChain o o' fa fb fc)) := (pt_chain ho ho' ha hb hc hm).imp fun σ H Q ⟨as, δ, S, sr, er, w⟩ => by
  refine chain_t (Q := fun x H' => ∃ k, x = .bl k ∧ Q k H') sr er (w.bind.mono fun d _ _ _ x _ _ _ _ ⟨as1, S1, d1, _, x1, s1, r1, w1⟩ => ?_)
  split at w1
  · cases r1
    exact ⟨_, rfl, WR.pure (b := _) w1 s1 rfl⟩
  · exact w1.elim
theorem dt_not (ha : DT X E a ga) : DT X E (.UnaryOp .Not a pos) (dNot ga) := (pt_not ha).imp fun σ H Q ⟨as, δ, S, sr, er, w⟩ =>
  ⟨as, δ, S, sr, er, w.bind.mono fun _ _ _ _ _ _ _ _ _ ⟨as1, S1, d1, _, x1, s1, r1, w1⟩ => by cases r1; exact WR.pure (b := _) w1 s1 rfl⟩
theorem dw_and1 (ha : DT X E a ga) : DW X E (.BoolOp .And [a] pos) ga := pw_and1 ha
theorem dw_or1 (ha : DT X E a ga) : DW X E (.BoolOp .Or [a] pos) ga := pw_or1 ha
theorem dw_and (ha : DT X E a ga) (hb : DW X E (.BoolOp .And (b :: rest) pos) gb) : DW X E (.BoolOp .And (a :: b :: rest) pos) (dAnd ga gb) := (pw_and ha hb).imp fun σ H Q ⟨as, δ, S, sr, er, w⟩ =>
  ⟨as, δ, S, sr, er, w.bind.mono fun _ _ _ _ k _ _ _ _ ⟨as1, S1, d1, _, x1, s1, r1, w1⟩ => by
    cases r1
    cases k with
    | true => exact ⟨as1, δ, S1, s1, er.mono x1.w, w1⟩
    | false => exact WR.pure (b := _) w1 s1 rfl⟩
theorem dw_or (ha : DT X E a ga) (hb : DW X E (.BoolOp .Or (b :: rest) pos) gb) : DW X E (.BoolOp .Or (a :: b :: rest) pos) (dOr ga gb) := (pw_or ha hb).imp fun σ H Q ⟨as, δ, S, sr, er, w⟩ =>
  ⟨as, δ, S, sr, er, w.bind.mono fun _ _ _ _ k _ _ _ _ ⟨as1, S1, d1, _, x1, s1, r1, w1⟩ => by
    cases r1
    cases k with
    | true => exact WR.pure (b := _) w1 s1 rfl
    | false => exact ⟨as1, δ, S1, s1, er.mono x1.w, w1⟩⟩
theorem dt_w (h : DW X E a ga) : DT X E a ga := h.pt
theorem de_one {op : BoolOp} (ha : DE X E a fa) : DE X E (.BoolOp op [a] pos) fa := pe_one ha
theorem de_and (ha : DE X E a fa) (hb : DE X E (.BoolOp .And (b :: rest) pos) fb) : DE X E (.BoolOp .And (a :: b :: rest) pos) (dAndV fa fb) := (pe_andT ha hb).imp fun σ H Q ⟨as, δ, S, sr, er, w⟩ =>
  ⟨as, δ, S, sr, er, w.bind.mono fun _ _ _ _ _ _ _ _ _ ⟨as1, S1, d1, _, x1, s1, r1, w1⟩ => by
    split at w1
    · rename_i k e
      refine ⟨k, truD_ok s1 r1 e, ?_⟩
      split at w1
      · rename_i z
        rw [if_pos z]
        exact ⟨as1, δ, S1, s1, er.mono x1.w, w1⟩
      · rename_i z
        rw [if_neg z]
        exact WR.pure w1 s1 r1
    · exact w1.elim⟩
theorem de_or (ha : DE X E a fa) (hb : DE X E (.BoolOp .Or (b :: rest) pos) fb) : DE X E (.BoolOp .Or (a :: b :: rest) pos) (dOrV fa fb) := (pe_orT ha hb).imp fun σ H Q ⟨as, δ, S, sr, er, w⟩ =>
  ⟨as, δ, S, sr, er, w.bind.mono fun _ _ _ _ _ _ _ _ _ ⟨as1, S1, d1, _, x1, s1, r1, w1⟩ => by
    split at w1
    · rename_i k e
      refine ⟨k, truD_ok s1 r1 e, ?_⟩
      split at w1
      · rename_i z
        rw [if_pos z]
        exact WR.pure w1 s1 r1
      · rename_i z
        rw [if_neg z]
        exact ⟨as1, δ, S1, s1, er.mono x1.w, w1⟩
    · exact w1.elim⟩
theorem de_not (ha : DE X E a fa) : DE X E (.UnaryOp .Not a pos) (dNotV fa) := (pe_notT ha).imp fun σ H Q ⟨as, δ, S, sr, er, w⟩ =>
  ⟨as, δ, S, sr, er, w.bind.mono fun _ _ _ _ _ _ _ _ _ ⟨as1, S1, d1, _, x1, s1, r1, w1⟩ => by
    cases e : truD d1 S1 with
    | none => rw [e] at w1; exact w1.elim
    | some k =>
      rw [e] at w1
      exact ⟨k, truD_ok s1 r1 e, WR.pure w1 s1 (.bl _)⟩⟩
theorem de_ite (hc : DT X E c ga) (ha : DE X E a fa) (hb : DE X E b fb) : DE X E (.IfExp c a b pos) (dIte ga fa fb) := (pe_ifExp hc ha hb).imp fun σ H Q ⟨as, δ, S, sr, er, w⟩ =>
  ⟨as, δ, S, sr, er, w.bind.mono fun _ _ _ _ k _ _ _ _ ⟨as1, S1, d1, _, x1, s1, r1, w1⟩ => by
    cases r1
    cases k with
    | true => exact ⟨as1, δ, S1, s1, er.mono x1.w, w1⟩
    | false => exact ⟨as1, δ, S1, s1, er.mono x1.w, w1⟩⟩
end

/-! ### displays -/
def pvs : List DV → Option (List PV)
  | [] => some []
  | .p x :: r => (pvs r).map fun t => x :: t
  | .c _ :: _ => none
theorem pvs_ok {M : Wd} {as : As} {H : Hp} : ∀ {ds : List DV} {vs : List V} {ps : List PV}, DVRs M as H vs ds → pvs ds = some ps → PRs M as H vs ps
  | [], _, _, .nil, e => by cases e; exact .nil
  | .p x :: r, _, _, .cons h t, e => by
    simp only [pvs, Option.map_eq_some_iff] at e
    obtain ⟨qs, e1, rfl⟩ := e
    exact .cons h (pvs_ok t e1)
  | .c _ :: _, _, _, _, e => by cases e
def dTup (fs : Sig → AH → Res (List DV)) : Sig → AH → Res DV := fun δ S => (fs δ S).bind fun ds S => match pvs ds with
  | some ps => if ps.length ≤ 1000 then .ok (.p (.tup ps)) S else .bad
  | none => .bad
def dLst (fs : Sig → AH → Res (List DV)) : Sig → AH → Res (List PV) := fun δ S => (fs δ S).bind fun ds S => match pvs ds with
  | some ps => if ps.length ≤ 1000 then .ok ps S else .bad
  | none => .bad
theorem le1000 {n : Nat} (h : n ≤ 1000) : n ≤ sizeLine := Nat.le_trans h (by decide)
/-- a new list -/
def WF (M : Wd) (E : XK) (as : As) (H : Hp) (r : Res (List PV)) (Q : VK) : Prop := match r with
  | .ok ps S' => ∀ as' H' p vs, Ext as H as' H' → SR M as' H' S' → vs.length ≤ sizeLine → PRs M as' H' vs ps → H' p = none → Q (.ref p) (upd H' p (.lst vs))
  | .exc c p S' => ∀ as' H' cls dd, Ext as H as' H' → SR M as' H' S' → ExR M as' H' c p cls dd → E cls dd H'
  | .bad => False
def tF (M : Wd) (E : L2.St → XK) (f : Sig → AH → Res (List PV)) : TE := fun σ H Q => ∃ as δ S, SR M as H S ∧ ER M as H σ δ ∧ WF M (E σ) as H (f δ S) Q
abbrev FE (X : Cx) (E : L2.St → XK) (e : Expr) (f : Sig → AH → Res (List PV)) : Prop := PE X e (tF (wd X) E f)
def dVal (f : Sig → AH → Res (List PV)) : Sig → AH → Res DV := fun δ S => (f δ S).bind fun ps S => .ok (.p (.lst ps)) S
def dCell (f : Sig → AH → Res (List PV)) : Sig → AH → Res DV := fun δ S => (f δ S).bind fun ps S => .ok (.c S.length) (S ++ [.lst ps])
section
variable {M : Wd} {E0 : XK} {as as' : As} {H H' : Hp} {α β : Type} {R : As → Hp → β → α → Prop}
theorem WF.later {r : Res (List PV)} {Q : VK} (x : Ext as H as' H') (w : WF M E0 as H r Q) : WF M E0 as' H' r Q := by
  cases r with
  | ok a S => exact fun as2 H2 p vs e => w as2 H2 p vs (x.trans e)
  | exc c p S => exact fun as2 H2 cls dd e => w as2 H2 cls dd (x.trans e)
  | bad => exact w
theorem WF.bind {r : Res α} {k : α → AH → Res (List PV)} {Q : VK} (w : WF M E0 as H (r.bind k) Q) :
    WR M E0 R as H r (fun b H1 => ∃ as1 S1 a, r = .ok a S1 ∧ Ext as H as1 H1 ∧ SR M as1 H1 S1 ∧ R as1 H1 b a ∧ WF M E0 as1 H1 (k a S1) Q) := by
  cases r with
  | ok a S => exact fun as2 H2 b e s q => ⟨as2, S, a, rfl, e, s, q, WF.later e w⟩
  | exc c p S => exact w
  | bad => exact w
theorem WF.here {S : AH} {ps : List PV} {Q : VK} {p : Addr} {vs : List V} (w : WF M E0 as H (.ok ps S) Q) (s : SR M as H S) (z : vs.length ≤ sizeLine) (r : PRs M as H vs ps) (n : H p = none) : Q (.ref p) (upd H p (.lst vs)) := w as H p vs (Ext.refl _ _) s z r n
/-- from a value's or a cell's reading -/
theorem WF.val {r : Res (List PV)} {Q : VK} (w : WR M E0 (DVR M) as H (r.bind fun ps S => .ok (.p (.lst ps)) S) Q) : WF M E0 as H r Q := by
  cases r with
  | ok ps S => exact fun as2 H2 p vs e s z t n => w as2 _ _ (e.trans (ext_new s n)) (s.new n) (PR.lst ⟨z, upd_same, s.fresh n⟩ (t.mono (ext_new s n).w))
  | exc c p S => exact w
  | bad => exact w
theorem WF.cell {r : Res (List PV)} {Q : VK} (w : WR M E0 (DVR M) as H (r.bind fun ps S => .ok (.c S.length) (S ++ [.lst ps])) Q) : WF M E0 as H r Q := by
  cases r with
  | ok ps S => exact fun as2 H2 p vs e s z t n => w (as2.add p) _ _ (e.trans (ext_cell s n)) (s.newCell n z t) ⟨p, by rw [← s.len]; simp [As.add], rfl⟩
  | exc c p S => exact w
  | bad => exact w
end
section
variable {X : Cx} {E : L2.St → XK} {e a b c : Expr} {es rest : List Expr} {pos : Pos} {fa fb fc : Sig → AH → Res DV} {fs : Sig → AH → Res (List DV)} {f : Sig → AH → Res (List PV)}
theorem de_val (h : FE X E e f) : DE X E e (dVal f) := h.imp fun σ H Q ⟨as, δ, S, sr, er, w⟩ => ⟨as, δ, S, sr, er, WF.val w⟩
theorem de_cell (h : FE X E e f) : DE X E e (dCell f) := h.imp fun σ H Q ⟨as, δ, S, sr, er, w⟩ => ⟨as, δ, S, sr, er, WF.cell w⟩
theorem de_tup {k} (h : DA X E es fs) : DE X E (.Tuple es k pos) (dTup fs) := (pe_tupZ h).imp fun σ H Q ⟨as, δ, S, sr, er, w⟩ =>
  ⟨as, δ, S, sr, er, w.bind.mono fun _ _ _ _ vs _ _ _ _ ⟨as1, S1, d1, _, x1, s1, r1, w1⟩ => by
    split at w1
    · rename_i ps e
      have t := pvs_ok r1 e
      split at w1
      · rename_i z
        have z2 : vs.length ≤ sizeLine := by rw [t.length]; exact le1000 z
        exact ⟨z2, WO.tup (ps := ps) (S := S1) (fun as' H' b => w1 as' H' b) s1 z2 t⟩
      · exact w1.elim
    · exact w1.elim⟩
theorem fe_lst (h : DA X E es fs) : FE X E (.List es pos) (dLst fs) := (pe_lst h).imp fun σ H Q ⟨as, δ, S, sr, er, w⟩ =>
  ⟨as, δ, S, sr, er, (WF.bind w).mono fun _ _ _ _ vs _ _ _ _ ⟨as1, S1, d1, _, x1, s1, r1, w1⟩ => by
    split at w1
    · rename_i ps e
      have t := pvs_ok r1 e
      split at w1
      · rename_i z
        have z2 : vs.length ≤ sizeLine := by rw [t.length]; exact le1000 z
        exact ⟨z2, fun p n => w1.here s1 z2 t n⟩
      · exact w1.elim
    · exact w1.elim⟩
end
end
end DL
namespace SrtT
open PySem PyProof.Rows Srt SrtO
variable {prog : Program} {w : World} {A : Around} {E : Value → Shared → Prop} {s : Shared}
/-- the items of a tuple, gathered -/
theorem gather_tup {tp : Addr} {us : List Value} {R : List Value → Shared → Prop} (ht : IsTup s.heap tp us.toArray)
    (h : R us { s with heap := (s.heap.push (seqObj "list" #[] 0)).update s.heap.objs.size (Obj.mapSeq (· ++ us.toArray)) }) (hz : us.length ≤ sizeLine) :
    wpAny (model prog w) A (collect (.ref tp)) R E s := by
  obtain ⟨ob, g1, g2, m, g3⟩ := id ht
  unfold collect
  refine wpAny_bind (wpAny_runValue (codeAny_builtin entry_proto_collect' ?_)); show wpAny _ _ (do again (.builtin "list.__iadd__" ⟨[← newList [], .ref tp], []⟩)) _ _ s
  refine wpAny_bind (wpAny_newList (wpAny_pure ⟨Code.quiet_builtin _ (by decide +kernel), codeAny_builtin entry_list_iadd' ?_⟩)); show wpAny _ _ (Builtin.List.listExtendWith (.ref s.heap.objs.size) (.ref tp) (.ref s.heap.objs.size)) _ _ { s with heap := s.heap.push (seqObj "list" #[] 0) }
  unfold Builtin.List.listExtendWith
  have g1' : (s.heap.push (seqObj "list" #[] 0)).get? tp = some ob := Heap.get?_push_of_some _ g1
  refine wpAny_bind (wpAny_typeOf (T := "tuple") ⟨ob, g1', g2⟩ ?_)
  have ty : (Value.type "tuple" == Value.type "tuple") = true := by rfl
  rw [if_pos (by rw [ty]; simp)]
  refine wpAny_bind (listItems_at g1' g3 ?_)
  refine wpAny_bind (listItems_at (xs := #[]) (n := 0) (Heap.get?_push_size _ rfl) rfl ?_); rw [if_neg (by simp)]
  refine wpAny_bind (listUpdate_at (xs := #[]) (n := 0) (Heap.get?_push_size _ rfl) rfl ?_ (Nat.zero_le _) (by show (#[] ++ us.toArray).size ≤ sizeLine + 1; simp only [Array.size_append, List.size_toArray, List.length_nil]; omega))
  refine wpAny_pure ?_
  show wpAny (model prog w) A (do
      let ob ← load s.heap.objs.size
      match ob.data with
      | .seq ys _ => pure ys.toList
      | _ => unsupported "internal:collect") R E { s with heap := (s.heap.push (seqObj "list" #[] 0)).update s.heap.objs.size (Obj.mapSeq (· ++ us.toArray)) }
  refine wpAny_bind (wpAny_load (get?_update_seq (Heap.get?_push_size _ rfl) _) ?_); show wpAny _ _ (pure ((#[] : Array Value) ++ us.toArray).toList) R E _
  rw [show ((#[] : Array Value) ++ us.toArray).toList = us by simp]
  exact wpAny_pure h
/-- sorted(t) of a tuple -/
theorem sorted_tup {tp : Addr} {us : List Value} {ltv : Value → Value → Bool} {R : Value → Shared → Prop} (O : Swo ltv) (ht : IsTup s.heap tp us.toArray) (hz : us.length ≤ sizeLine)
    (hS : 2 ≤ us.length → ∀ (h₁ : Heap) (b : Addr), h₁.get? b = some (seqObj "list" us.toArray 0) → (∀ c o, s.heap.get? c = some o → c ≠ b ∧ h₁.get? c = some o) → SortableO prog w A.in1.in1 { s with heap := h₁ } b us ltv)
    (h : ∀ out : List Value, Srtd ltv out → Stb ltv out us → R (.ref (s.heap.objs.size + 1)) { s with heap := sortedAll s.heap us out.toArray }) :
    wpAny (model prog w) A (call (.builtin "sorted") [.ref tp]) R E s := by
  refine Calls.call_function_entry kind_sorted plain_sorted entry_sorted (args_sorted1 _) ?_; unfold Builtin.«sorted»
  refine wpAny_bind (m := checkCount "sorted" 1 1 _) (wpAny_pure ?_); refine wpAny_bind (gather_tup ht ?_ hz)
  refine wpAny_bind (wpAny_newList ?_ hz)
  have sz : ((s.heap.push (seqObj "list" #[] 0)).update s.heap.objs.size (Obj.mapSeq (· ++ us.toArray))).objs.size = s.heap.objs.size + 1 := by rw [Heap.size_update, size_push']
  have oL : (((s.heap.push (seqObj "list" #[] 0)).update s.heap.objs.size (Obj.mapSeq (· ++ us.toArray))).push (seqObj "list" us.toArray 0)).get? (s.heap.objs.size + 1) = some (seqObj "list" us.toArray 0) := by rw [← sz]; exact Heap.get?_push_size _ rfl
  have kp : ∀ c o, s.heap.get? c = some o → c ≠ s.heap.objs.size + 1 ∧ (((s.heap.push (seqObj "list" #[] 0)).update s.heap.objs.size (Obj.mapSeq (· ++ us.toArray))).push (seqObj "list" us.toArray 0)).get? c = some o := fun c o q => by
    have lt : c < s.heap.objs.size := Heap.lt_size q
    refine ⟨Nat.ne_of_lt (Nat.lt_succ_of_lt lt), Heap.get?_push_of_some _ ?_⟩
    rw [Heap.get?_update_ne _ _ _ _ (Nat.ne_of_lt lt)]; exact Heap.get?_push_of_some _ q
  show wpAny _ _ _ _ _ { s with heap := ((s.heap.push (seqObj "list" #[] 0)).update s.heap.objs.size (Obj.mapSeq (· ++ us.toArray))).push (seqObj "list" us.toArray 0) }
  rw [sz]
  refine wpAny_bind (wpAny_holding (wpAny_call_entry slot_list_sort ⟨_, oL, rfl⟩ entry_list_sort (list_sort_ord O oL hz (fun h2 => hS h2 _ _ oL kp) fun out hs hb => ⟨_, rfl, ?_⟩) (args_list_sort _)))
  exact wpAny_pure ⟨_, rfl, h out hs hb⟩
end SrtT
namespace L2
open PySem PySem.Spec PyProof.Rows
def rSortedTI (K : PySem.W.Frag) : List V → Hp → VK → Prop := fun vs H Q => ∃ (a : Addr) (ns : List Int), vs = [V.ref a] ∧ SqT K H a (ns.map V.int) ∧
  ∀ (ms : List Int) (p : Addr), ms.Perm ns → ms.Pairwise (· ≤ ·) → H p = none → Q (.ref p) (upd H p (.lst (ms.map V.int)))
variable {X : Cx}
theorem cr_sortedTI : CallR X (.builtin "sorted") (rSortedTI X.K) := by
  intro pins s σ H vs us Q I r h
  obtain ⟨tp, ns, rfl, hs, q⟩ := h
  obtain ⟨its, rv, hl, hz⟩ := I.tuple hs
  rw [Vals.ref1 r]
  have hi := rv.ints
  refine SrtT.sorted_tup SrtO.swo_int hl (by rw [← rv.length]; exact hz) (fun h2 h₁ b _ _ => SrtO.ints_sortable hi h2) fun out h1 h2 => ?_
  obtain ⟨k1, k2, k3⟩ := SrtO.ints_out hi h1 h2
  obtain ⟨ep, he⟩ := PyProof.Rows.sortedAll_at s.heap its out.toArray
  have hn : ((out.map SrtO.iv).map V.int).length ≤ sizeLine := by rw [List.length_map, k2.length_eq]; rw [List.length_map] at hz; exact hz
  refine ⟨.ref _, upd H (s.heap.objs.size + 1) (.lst ((out.map SrtO.iv).map V.int)), ?_, rfl, q _ _ k2 k3 (I.hok.fresh (Nat.le_succ _))⟩
  exact I.laid (t' := s.toks) (fun _ _ => PyProof.Rows.sortedAll_old) (Nat.le_succ _) ⟨hn, out, ep, vals_of_ints k1, he⟩
end L2
namespace DL
noncomputable section
open PySem PySem.Spec PyProof.Rows L2

/-! ### subscripts -/
def ixO : Op2 := fun a b S => match b with
  | .p (.int i) => match a with
    | .p (.str z) => if z.length ≤ sizeLine then (atI z.cps.toList i).map fun c => (.p (.str ⟨#[c]⟩), S) else none
    | _ => match items a S with
      | some xs => (atI xs i).map fun x => (.p x, S)
      | none => match nitems a S with
        | some ks => (atI ks i).map fun k => (.c k, S)
        | none => none
  | _ => none
theorem atI_krs {as : As} {vs : List V} {ks : List Nat} {i : Int} {k : Nat} (t : KRs as vs ks) (e : atI ks i = some k) : ∃ v, atI vs i = some v ∧ ∃ b, as.cells[k]? = some b ∧ v = .ref b := by
  unfold atI at e ⊢
  rw [t.length]
  cases q : ixN ks.length i with
  | none => rw [q] at e; cases e
  | some j =>
    rw [q] at e
    exact t.get e
theorem atI_prs {M : Wd} {as : As} {H : Hp} {vs : List V} {ps : List PV} {i : Int} {p : PV} (t : PRs M as H vs ps) (e : atI ps i = some p) : ∃ v, atI vs i = some v ∧ PR M as H v p := by
  unfold atI at e ⊢
  rw [t.length]
  cases q : ixN ps.length i with
  | none => rw [q] at e; cases e
  | some j =>
    rw [q] at e
    exact t.get e
theorem ow_ix {X : Cx} : IxR X (rO (wd X) ixO) := by
  intro value slice pins s σ H x y v u Q I rx ry h hs
  obtain ⟨as, S, d1, d2, sr, r1, r2, w⟩ := h
  unfold ixO at w
  split at w
  · cases r2
    split at w
    · cases r1
      split at w
      · rename_i z
        revert w
        generalize e : atI _ _ = o
        intro w
        cases o with
        | none => exact w.elim
        | some c => exact ix_str value slice pins s σ H _ _ v u Q I rx ry ⟨_, _, c, rfl, rfl, z, e, w.here sr (.str _)⟩ hs
      · exact w.elim
    · split at w
      · rename_i xs e1
        revert w
        generalize e : atI _ _ = o
        intro w
        cases o with
        | none => exact w.elim
        | some c =>
          obtain ⟨a, vs, rfl, z, q, t⟩ := items_sq sr r1 e1
          obtain ⟨z, e2, r⟩ := atI_prs t e
          rcases q with q | q
          · exact ix_list value slice pins s σ H _ _ v u Q I rx ry ⟨_, _, _, z, rfl, rfl, q, e2, w.here sr r⟩ hs
          · exact ix_tup value slice pins s σ H _ _ v u Q I rx ry ⟨_, _, _, z, rfl, rfl, q, e2, w.here sr r⟩ hs
      · split at w
        · rename_i ks e1
          revert w
          generalize e : atI _ _ = o
          intro w
          cases o with
          | none => exact w.elim
          | some k =>
            obtain ⟨a, vs, rfl, z, q, t⟩ := nitems_sq sr r1 e1
            obtain ⟨z, e2, b, eb, rfl⟩ := atI_krs t e
            exact ix_list value slice pins s σ H _ _ v u Q I rx ry ⟨_, _, _, _, rfl, rfl, .of q, e2, w.here sr ⟨b, eb, rfl⟩⟩ hs
        · exact w.elim
  · exact w.elim
section
variable {X : Cx} {E : L2.St → XK} {a b c : Expr} {es : List Expr} {pos : Pos} {fa fb fc : Sig → AH → Res DV} {fs : Sig → AH → Res (List DV)}
theorem de_ix (ha : DE X E a fa) (hb : DE X E b fb) (hs : PlainIx b) : DE X E (.Subscript a b pos) (dBin ixO fa fb) := (pe_ix ow_ix ha hb hs).imp fun σ H Q ⟨as, δ, S, sr, er, w⟩ => t2 sr er w
end

/-- the items of a list -/
def litems : DV → AH → Option (List PV)
  | .p (.lst xs), _ => some xs
  | .p (.fro xs), _ => some xs
  | .c n, S => match S[n]? with
    | some (.lst xs) => some xs
    | _ => none
  | _, _ => none
theorem litems_sq {M : Wd} {as : As} {H : Hp} {S : AH} {d : DV} {v : V} {xs : List PV} (h : SR M as H S) (r : DVR M as H v d) (e : litems d S = some xs) : ∃ a vs, v = .ref a ∧ vs.length ≤ sizeLine ∧ SqL M.K H a vs ∧ PRs M as H vs xs := by
  cases d with
  | p x =>
    cases x with
    | lst ys => cases e; cases r with | lst h t => exact ⟨_, _, rfl, h.1, h.sq, t⟩
    | fro ys => cases e; cases r with | fro h t => exact ⟨_, _, rfl, h.1, h.sq, t⟩
    | _ => cases e
  | c n =>
    obtain ⟨a, ea, rfl⟩ := r
    simp only [litems] at e
    split at e
    · rename_i ys q
      cases e
      obtain ⟨b, vs, eb, z, hb, t⟩ := h.at q
      rw [ea] at eb; cases eb
      exact ⟨_, _, rfl, z, .of hb, t⟩
    · cases e

/-! ### slices -/
def cutL {α : Type} (xs : List α) (lo hi : Option Int) : List α := (xs.drop (HT.sIx xs.length 0 lo)).take (HT.sIx xs.length xs.length hi - HT.sIx xs.length 0 lo)
def slO (a : DV) (lo hi : Option Int) (S : AH) : Option (DV × AH) := match a with
  | .p (.str z) => if z.length ≤ sizeLine then some (.p (.str (cutS z lo hi)), S) else none
  | .p (.tup xs) => some (.p (.tup (cutL xs lo hi)), S)
  | _ => match litems a S with
    | some xs => some (.p (.lst (cutL xs lo hi)), S)
    | none => none
def tDO (M : Wd) (E : L2.St → XK) (f : Sig → AH → Res (Option Int)) : TO := fun σ H Q => ∃ as δ S, SR M as H S ∧ ER M as H σ δ ∧ WR M (E σ) RB as H (f δ S) Q
abbrev DP (X : Cx) (E : L2.St → XK) (e : Option Expr) (f : Sig → AH → Res (Option Int)) : Prop := PO X e (tDO (wd X) E f)
theorem PO.imp {X : Cx} {e : Option Expr} {t t' : TO} (h : PO X e t) (i : ∀ σ H Q, t' σ H Q → t σ H Q) : PO X e t' := ⟨fun pins s σ H Q I q => h.run pins s σ H Q I (i σ H Q q)⟩
def dNoPart : Sig → AH → Res (Option Int) := fun _ S => .ok none S
def dPart (fa : Sig → AH → Res DV) : Sig → AH → Res (Option Int) := fun δ S => (fa δ S).bind fun a S => match a with
  | .p (.int i) => .ok (some i) S
  | _ => .bad
def dSl (fa : Sig → AH → Res DV) (fl fh : Sig → AH → Res (Option Int)) : Sig → AH → Res DV := fun δ S => (fa δ S).bind fun a S => (fl δ S).bind fun l S => (fh δ S).bind fun h S => lift (slO a l h S)
theorem cutV_prs {M : Wd} {as : As} {H : Hp} {vs : List V} {ps : List PV} (t : PRs M as H vs ps) (lo hi : Option Int) : PRs M as H (cutV vs lo hi) (cutL ps lo hi) := by
  unfold cutV cutL
  rw [t.length]
  exact (t.drop _).take _
theorem cutV_len (vs : List V) (lo hi : Option Int) : (cutV vs lo hi).length ≤ vs.length := by
  unfold cutV
  rw [List.length_take, List.length_drop]
  omega
theorem cut_whole {α : Type} (xs : List α) {lo hi : Option Int} (h : HT.sIx xs.length 0 lo = 0 ∧ HT.sIx xs.length xs.length hi = xs.length) : cutL xs lo hi = xs := by
  unfold cutL
  rw [h.1, h.2, List.drop_zero, Nat.sub_zero, List.take_length]
def rSlD (M : Wd) : V → Option Int → Option Int → Hp → VK → Prop := fun x lo hi H Q => ∃ as S d, SR M as H S ∧ DVR M as H x d ∧ WO M as H (slO d lo hi S) Q
theorem ow_sl {X : Cx} : L2.SlR X (rSlD (wd X)) := by
  intro pins s σ H x v vl vu lo hi sl Q I rx hs pl pu h
  obtain ⟨as, S, d, sr, r, w⟩ := h
  unfold slO at w
  split at w
  · cases r
    split at w
    · rename_i z
      exact sl_str pins s σ H _ v vl vu lo hi sl Q I rx hs pl pu ⟨_, rfl, z, w.here sr (.str _)⟩
    · exact w.elim
  · cases r with
    | tup h1 t1 =>
      have hl := t1.length
      refine sl_tupZ pins s σ H _ v vl vu lo hi sl Q I rx hs pl pu ⟨_, _, rfl, h1.sq, fun e => ?_, fun e => ?_⟩
      · rw [hl] at e
        rw [cut_whole _ e] at w
        exact w.here sr (.tup h1 t1)
      · exact w.tup sr (Nat.le_trans (cutV_len _ _ _) h1.1) (cutV_prs t1 _ _)
  · split at w
    · rename_i xs e
      obtain ⟨a, vs, rfl, z, q, t⟩ := litems_sq sr r e
      exact sl_list pins s σ H _ v vl vu lo hi sl Q I rx hs pl pu ⟨_, _, rfl, q, fun p n => w.lst sr (Nat.le_trans (cutV_len _ _ _) z) (cutV_prs t _ _) n⟩
    · exact w.elim
section
variable {X : Cx} {E : L2.St → XK} {a b c : Expr} {es : List Expr} {pos p2 : Pos} {lo hi : Option Expr} {fa fb fc : Sig → AH → Res DV} {fs : Sig → AH → Res (List DV)} {fl fh : Sig → AH → Res (Option Int)}
theorem dp_none : DP X E none dNoPart := PO.imp po_none fun σ H Q ⟨as, δ, S, sr, er, w⟩ => WR.pure (b := none) w sr rfl
theorem dp_some (ha : DE X E a fa) : DP X E (some a) (dPart fa) := PO.imp (po_some ha) fun σ H Q ⟨as, δ, S, sr, er, w⟩ =>
  ⟨as, δ, S, sr, er, w.bind.mono fun _ _ _ _ _ _ _ _ _ ⟨as1, S1, d1, _, x1, s1, r1, w1⟩ => by
    split at w1
    · cases r1
      exact ⟨_, rfl, WR.pure (b := _) w1 s1 rfl⟩
    · exact w1.elim⟩
theorem de_sl (ha : DE X E a fa) (hl : DP X E lo fl) (hh : DP X E hi fh) : DE X E (.Subscript a (.Slice lo hi none p2) pos) (dSl fa fl fh) := (pe_slice ow_sl ha hl hh).imp fun σ H Q ⟨as, δ, S, sr, er, w⟩ =>
  ⟨as, δ, S, sr, er, w.bind.mono fun _ _ _ _ _ _ _ _ _ ⟨as1, S1, d1, _, x1, s1, r1, w1⟩ =>
    ⟨as1, δ, S1, s1, er.mono x1.w, w1.bind.mono fun _ _ _ _ _ _ _ _ _ ⟨as2, S2, d2, _, x2, s2, r2, w2⟩ =>
      ⟨as2, δ, S2, s2, (er.mono x1.w).mono x2.w, w2.bind.mono fun _ _ _ _ _ _ _ _ _ ⟨as3, S3, d3, _, x3, s3, r3, w3⟩ => by
        cases r2; cases r3
        exact ⟨as3, S3, d1, s3, (r1.mono x2.w).mono x3.w, w3.wo⟩⟩⟩⟩
end

/-! ### built-in functions and classes -/
section
variable {X : Cx} {E : L2.St → XK} {a b c : Expr} {es : List Expr} {p pos : Pos} {x : Str} {T id : String} {fa fb fc : Sig → AH → Res DV} {fs : Sig → AH → Res (List DV)} {o : OpN}
theorem tApp {σ : L2.St} {H : Hp} {Q : VK} {as : As} {δ : Sig} {S : AH} (sr : SR (wd X) as H S) (er : ER (wd X) as H σ δ) (w : WR (wd X) (E σ) (DVR (wd X)) as H (dApp o fs δ S) Q) : tCB (rON (wd X) o) (tDA (wd X) E fs) σ H Q :=
  ⟨as, δ, S, sr, er, w.bind.mono fun _ _ _ _ _ _ _ _ _ ⟨as1, S1, d1, _, x1, s1, r1, w1⟩ => ⟨as1, S1, d1, s1, r1, w1.wo⟩⟩
theorem de_callB (hc : CallR X (.builtin id) (rON (wd X) o)) (hg : Gl X x) (hm : X.mg x = none) (hv : bootBuiltins x = some (.builtin id)) (ha : DA X E (a :: es) fs) (hn : x ≠ "__name__" := by decide) (hdb : (x == ("__debug__" : Str)) = false := by decide)
    (he : starEach (a :: es) X.env = (false, eval a X.env) :: starEach es X.env := by rfl) (hpl : (backTo pos (starEach es X.env)).any (·.1) = false := by rfl) : DE X E (.Call (.Name x p) (a :: es) [] pos) (dApp o fs) := (pe_callB hc hg hm hv ha hn hdb he hpl).imp fun σ H Q ⟨as, δ, S, sr, er, w⟩ => tApp sr er w
theorem de_callTy (hc : CallR X (.type T) (rON (wd X) o)) (hg : Gl X x) (hm : X.mg x = none) (hv : bootBuiltins x = some (.type T)) (ha : DA X E (a :: es) fs) (hn : x ≠ "__name__" := by decide) (hdb : (x == ("__debug__" : Str)) = false := by decide)
    (he : starEach (a :: es) X.env = (false, eval a X.env) :: starEach es X.env := by rfl) (hpl : (backTo pos (starEach es X.env)).any (·.1) = false := by rfl) : DE X E (.Call (.Name x p) (a :: es) [] pos) (dApp o fs) := (pe_callTy hc hg hm hv ha hn hdb he hpl).imp fun σ H Q ⟨as, δ, S, sr, er, w⟩ => tApp sr er w
end
def intsOf : List PV → Option (List Int)
  | [] => some []
  | .int i :: r => (intsOf r).map fun t => i :: t
  | _ :: _ => none
def blsOf : List PV → Option (List Bool)
  | [] => some []
  | .bl i :: r => (blsOf r).map fun t => i :: t
  | _ :: _ => none
theorem intsOf_ok : ∀ {ps : List PV} {ns : List Int}, intsOf ps = some ns → ps = ns.map PV.int
  | [], _, e => by cases e; rfl
  | .int i :: r, ns, e => by
    simp only [intsOf, Option.map_eq_some_iff] at e
    obtain ⟨t, e1, rfl⟩ := e
    rw [intsOf_ok e1]; rfl
  | .non :: _, _, e => by cases e
  | .bl _ :: _, _, e => by cases e
  | .str _ :: _, _, e => by cases e
  | .tup _ :: _, _, e => by cases e
  | .lst _ :: _, _, e => by cases e
  | .fro _ :: _, _, e => by cases e
  | .glob _ :: _, _, e => by cases e
theorem intsOf_map (ns : List Int) : intsOf (ns.map PV.int) = some ns := by
  induction ns with
  | nil => rfl
  | cons n ns ih => simp [intsOf, ih]
theorem blsOf_ok : ∀ {ps : List PV} {ns : List Bool}, blsOf ps = some ns → ps = ns.map PV.bl
  | [], _, e => by cases e; rfl
  | .bl i :: r, ns, e => by
    simp only [blsOf, Option.map_eq_some_iff] at e
    obtain ⟨t, e1, rfl⟩ := e
    rw [blsOf_ok e1]; rfl
  | .non :: _, _, e => by cases e
  | .int _ :: _, _, e => by cases e
  | .str _ :: _, _, e => by cases e
  | .tup _ :: _, _, e => by cases e
  | .lst _ :: _, _, e => by cases e
  | .fro _ :: _, _, e => by cases e
  | .glob _ :: _, _, e => by cases e
theorem blsOf_map (ns : List Bool) : blsOf (ns.map PV.bl) = some ns := by
  induction ns with
  | nil => rfl
  | cons n ns ih => simp [blsOf, ih]
def lenO : OpN := fun ds S => match ds with
  | [.p (.str x)] => if x.length ≤ sizeLine then some (.p (.int x.length), S) else none
  | [d] => match items d S with
    | some xs => some (.p (.int xs.length), S)
    | none => match nitems d S with
      | some ks => some (.p (.int ks.length), S)
      | none => none
  | _ => none
def absO : OpN := fun ds S => match ds with
  | [.p (.int i)] => some (.p (.int (if i < 0 then -i else i)), S)
  | _ => none
def intO : OpN := fun ds S => match ds with
  | [.p (.int i)] => some (.p (.int i), S)
  | [.p (.bl k)] => some (.p (.int (if k then 1 else 0)), S)
  | _ => none
def maxI : List Int → Int
  | [] => 0
  | [a] => a
  | a :: r => max a (maxI r)
def minI : List Int → Int
  | [] => 0
  | [a] => a
  | a :: r => min a (minI r)
theorem maxI_mem : ∀ (ns : List Int), ns ≠ [] → maxI ns ∈ ns ∧ ∀ y ∈ ns, y ≤ maxI ns
  | [], h => absurd rfl h
  | [a], _ => ⟨List.mem_singleton.mpr rfl, fun y hy => by rw [List.mem_singleton.mp hy]; exact Int.le_refl _⟩
  | a :: b :: r, _ => by
    obtain ⟨h1, h2⟩ := maxI_mem (b :: r) (by simp)
    show max a (maxI (b :: r)) ∈ _ ∧ ∀ y ∈ _, y ≤ max a (maxI (b :: r))
    refine ⟨?_, fun y hy => ?_⟩
    · by_cases h : maxI (b :: r) ≤ a
      · rw [Int.max_eq_left h]; exact List.mem_cons_self
      · rw [Int.max_eq_right (by omega)]; exact List.mem_cons_of_mem _ h1
    · rcases List.mem_cons.mp hy with rfl | hy
      · omega
      · have := h2 y hy; omega
theorem minI_mem : ∀ (ns : List Int), ns ≠ [] → minI ns ∈ ns ∧ ∀ y ∈ ns, minI ns ≤ y
  | [], h => absurd rfl h
  | [a], _ => ⟨List.mem_singleton.mpr rfl, fun y hy => by rw [List.mem_singleton.mp hy]; exact Int.le_refl _⟩
  | a :: b :: r, _ => by
    obtain ⟨h1, h2⟩ := minI_mem (b :: r) (by simp)
    show min a (minI (b :: r)) ∈ _ ∧ ∀ y ∈ _, min a (minI (b :: r)) ≤ y
    refine ⟨?_, fun y hy => ?_⟩
    · by_cases h : a ≤ minI (b :: r)
      · rw [Int.min_eq_left h]; exact List.mem_cons_self
      · rw [Int.min_eq_right (by omega)]; exact List.mem_cons_of_mem _ h1
    · rcases List.mem_cons.mp hy with rfl | hy
      · omega
      · have := h2 y hy; omega
def maxO : OpN := fun ds S => match ds with
  | [.p (.int i), .p (.int j)] => some (.p (.int (if j > i then j else i)), S)
  | [d] => match litems d S with
    | some xs => match intsOf xs with
      | some ns => if ns ≠ [] then some (.p (.int (maxI ns)), S) else none
      | none => none
    | none => none
  | _ => none
def minO : OpN := fun ds S => match ds with
  | [.p (.int i), .p (.int j)] => some (.p (.int (if j < i then j else i)), S)
  | [d] => match litems d S with
    | some xs => match intsOf xs with
      | some ns => if ns ≠ [] then some (.p (.int (minI ns)), S) else none
      | none => none
    | none => none
  | _ => none
def sumO : OpN := fun ds S => match ds with
  | [d] => match items d S with
    | some xs => match intsOf xs with
      | some ns => some (.p (.int ns.sum), S)
      | none => none
    | none => none
  | _ => none
def allO : OpN := fun ds S => match ds with
  | [d] => match litems d S with
    | some xs => match blsOf xs with
      | some ns => some (.p (.bl (ns.all id)), S)
      | none => none
    | none => none
  | _ => none
def anyO : OpN := fun ds S => match ds with
  | [d] => match litems d S with
    | some xs => match blsOf xs with
      | some ns => some (.p (.bl (ns.any id)), S)
      | none => none
    | none => none
  | _ => none
def tupleO : OpN := fun ds S => match ds with
  | [d] => match items d S with
    | some xs => some (.p (.tup xs), S)
    | none => none
  | _ => none
theorem DVRs.one {M : Wd} {as : As} {H : Hp} {vs : List V} {d : DV} (r : DVRs M as H vs [d]) : ∃ v, vs = [v] ∧ DVR M as H v d := by
  cases r with
  | cons h t => cases t; exact ⟨_, rfl, h⟩
theorem DVRs.two {M : Wd} {as : As} {H : Hp} {vs : List V} {d e : DV} (r : DVRs M as H vs [d, e]) : ∃ v w, vs = [v, w] ∧ DVR M as H v d ∧ DVR M as H w e := by
  cases r with
  | cons h t =>
    obtain ⟨w, rfl, h2⟩ := DVRs.one t
    exact ⟨_, _, rfl, h, h2⟩
section
variable {X : Cx}
theorem ow_len : CallR X (.builtin "len") (rON (wd X) lenO) := by
  intro pins s σ H vs us Q I rv h
  obtain ⟨as, S, ds, sr, r, w⟩ := h
  unfold lenO at w
  split at w
  · obtain ⟨v, rfl, r1⟩ := DVRs.one r
    cases r1
    split at w
    · rename_i z
      exact call_len pins s σ H _ us Q I rv ⟨_, _, rfl, ⟨z, rfl⟩, w.here sr (.int _)⟩
    · exact w.elim
  · obtain ⟨v, rfl, r1⟩ := DVRs.one r
    split at w
    · rename_i xs e
      obtain ⟨a, vs, rfl, z, q, t⟩ := items_sq sr r1 e
      rw [← t.length] at w
      rcases q with q | q
      · exact call_len pins s σ H _ us Q I rv ⟨_, _, rfl, .inl ⟨vs, q, rfl⟩, w.here sr (.int _)⟩
      · exact call_len pins s σ H _ us Q I rv ⟨_, _, rfl, .inr ⟨vs, q, rfl⟩, w.here sr (.int _)⟩
    · split at w
      · rename_i ks e
        obtain ⟨a, vs, rfl, z, q, t⟩ := nitems_sq sr r1 e
        rw [← t.length] at w
        exact call_len pins s σ H _ us Q I rv ⟨_, _, rfl, .inl ⟨vs, .of q, rfl⟩, w.here sr (.int _)⟩
      · exact w.elim
  · exact w.elim
theorem ow_abs : CallR X (.builtin "abs") (rON (wd X) absO) := by
  intro pins s σ H vs us Q I rv h
  obtain ⟨as, S, ds, sr, r, w⟩ := h
  unfold absO at w
  split at w
  · obtain ⟨v, rfl, r1⟩ := DVRs.one r
    cases r1
    exact call_abs pins s σ H _ us Q I rv ⟨_, rfl, w.here sr (.int _)⟩
  · exact w.elim
theorem ow_int : CallR X (.type "int") (rON (wd X) intO) := by
  intro pins s σ H vs us Q I rv h
  obtain ⟨as, S, ds, sr, r, w⟩ := h
  unfold intO at w
  split at w
  · obtain ⟨v, rfl, r1⟩ := DVRs.one r
    cases r1
    exact call_int1 pins s σ H _ us Q I rv (.inl ⟨_, rfl, w.here sr (.int _)⟩)
  · obtain ⟨v, rfl, r1⟩ := DVRs.one r
    cases r1
    exact call_int1 pins s σ H _ us Q I rv (.inr ⟨_, rfl, w.here sr (.int _)⟩)
  · exact w.elim
theorem ow_max (hc : X.calm = true) : CallR X (.builtin "max") (rON (wd X) maxO) := by
  intro pins s σ H vs us Q I rv h
  obtain ⟨as, S, ds, sr, r, w⟩ := h
  unfold maxO at w
  split at w
  · obtain ⟨v, v2, rfl, r1, r2⟩ := DVRs.two r
    cases r1; cases r2
    exact call_max2 hc pins s σ H _ us Q I rv ⟨_, _, rfl, w.here sr (.int _)⟩
  · obtain ⟨v, rfl, r1⟩ := DVRs.one r
    split at w
    · rename_i xs e
      obtain ⟨a, vs, rfl, z, q, t⟩ := litems_sq sr r1 e
      split at w
      · rename_i ns e2
        rw [intsOf_ok e2] at t
        rw [t.ints] at q
        split at w
        · rename_i hne
          obtain ⟨g1, g2⟩ := maxI_mem ns hne
          refine cr_max hc pins s σ H _ us Q I rv ⟨a, ns, rfl, q, List.length_pos_iff.mpr hne, fun m h1 h2 => ?_⟩
          have e3 : m = maxI ns := Int.le_antisymm (g2 m h1) (h2 _ g1)
          subst e3
          exact w.here sr (.int _)
        · exact w.elim
      · exact w.elim
    · exact w.elim
  · exact w.elim
theorem ow_min (hc : X.calm = true) : CallR X (.builtin "min") (rON (wd X) minO) := by
  intro pins s σ H vs us Q I rv h
  obtain ⟨as, S, ds, sr, r, w⟩ := h
  unfold minO at w
  split at w
  · obtain ⟨v, v2, rfl, r1, r2⟩ := DVRs.two r
    cases r1; cases r2
    exact call_min2 hc pins s σ H _ us Q I rv ⟨_, _, rfl, w.here sr (.int _)⟩
  · obtain ⟨v, rfl, r1⟩ := DVRs.one r
    split at w
    · rename_i xs e
      obtain ⟨a, vs, rfl, z, q, t⟩ := litems_sq sr r1 e
      split at w
      · rename_i ns e2
        rw [intsOf_ok e2] at t
        rw [t.ints] at q
        split at w
        · rename_i hne
          obtain ⟨g1, g2⟩ := minI_mem ns hne
          refine cr_min hc pins s σ H _ us Q I rv ⟨a, ns, rfl, q, List.length_pos_iff.mpr hne, fun m h1 h2 => ?_⟩
          have e3 : m = minI ns := Int.le_antisymm (h2 _ g1) (g2 m h1)
          subst e3
          exact w.here sr (.int _)
        · exact w.elim
      · exact w.elim
    · exact w.elim
  · exact w.elim
/-- sum of a tuple -/
theorem cr_sumT (hc : X.calm = true) : CallR X (.builtin "sum") (fun vs H Q => ∃ (a : Addr) (ns : List Int), vs = [V.ref a] ∧ SqT X.K H a (ns.map V.int) ∧ Q (.int ns.sum) H) := by
  intro pins s σ H vs us Q I r h
  obtain ⟨a, ns, rfl, hs, q⟩ := h
  obtain ⟨its, rv, ht, _⟩ := I.tuple hs
  rw [Vals.ref1 r]
  have hi := rv.ints
  obtain ⟨xs, e⟩ := hi.allInts.items
  have hn : numsOf (intItems xs).toList = ns := by rw [← e]; exact hi.numsOf
  rw [nums_intItems] at hn
  have ht' : s.heap.IsTuple a its.toArray := ht
  rw [e] at ht'
  refine PySem.W.ktm_sumG (I.ok.hd hc) ht' fun h' tk t' hk => ?_
  rw [preSum_eq, List.take_of_length_le (by simp), hn]
  exact ⟨.int _, H, I.kept hk, ⟨_, rfl⟩, q⟩
theorem ow_sum (hc : X.calm = true) : CallR X (.builtin "sum") (rON (wd X) sumO) := by
  intro pins s σ H vs us Q I rv h
  obtain ⟨as, S, ds, sr, r, w⟩ := h
  unfold sumO at w
  split at w
  · obtain ⟨v, rfl, r1⟩ := DVRs.one r
    split at w
    · rename_i xs e
      obtain ⟨a, vs, rfl, z, q, t⟩ := items_sq sr r1 e
      split at w
      · rename_i ns e2
        rw [intsOf_ok e2] at t
        rw [t.ints] at q
        rcases q with q | q
        · exact cr_sum hc pins s σ H _ us Q I rv ⟨a, ns, rfl, q, w.here sr (.int _)⟩
        · exact cr_sumT hc pins s σ H _ us Q I rv ⟨a, ns, rfl, q, w.here sr (.int _)⟩
      · exact w.elim
    · exact w.elim
  · exact w.elim
theorem ow_all (hc : X.calm = true) : CallR X (.builtin "all") (rON (wd X) allO) := by
  intro pins s σ H vs us Q I rv h
  obtain ⟨as, S, ds, sr, r, w⟩ := h
  unfold allO at w
  split at w
  · obtain ⟨v, rfl, r1⟩ := DVRs.one r
    split at w
    · rename_i xs e
      obtain ⟨a, vs, rfl, z, q, t⟩ := litems_sq sr r1 e
      split at w
      · rename_i ns e2
        rw [blsOf_ok e2] at t
        rw [t.bls] at q
        exact cr_all hc pins s σ H _ us Q I rv ⟨a, ns, rfl, q, w.here sr (.bl _)⟩
      · exact w.elim
    · exact w.elim
  · exact w.elim
theorem ow_any (hc : X.calm = true) : CallR X (.builtin "any") (rON (wd X) anyO) := by
  intro pins s σ H vs us Q I rv h
  obtain ⟨as, S, ds, sr, r, w⟩ := h
  unfold anyO at w
  split at w
  · obtain ⟨v, rfl, r1⟩ := DVRs.one r
    split at w
    · rename_i xs e
      obtain ⟨a, vs, rfl, z, q, t⟩ := litems_sq sr r1 e
      split at w
      · rename_i ns e2
        rw [blsOf_ok e2] at t
        rw [t.bls] at q
        exact cr_any hc pins s σ H _ us Q I rv ⟨a, ns, rfl, q, w.here sr (.bl _)⟩
      · exact w.elim
    · exact w.elim
  · exact w.elim
theorem tup_or_lst {M : Wd} {as : As} {H : Hp} {S : AH} {d : DV} {v : V} {xs : List PV} (h : SR M as H S) (r : DVR M as H v d) (e : items d S = some xs) : d = .p (.tup xs) ∨ litems d S = some xs := by
  cases d with
  | p x => cases x <;> first | (cases e; exact .inl rfl) | (cases e; exact .inr rfl) | cases e
  | c n => exact .inr e
theorem ow_tuple : CallR X (.type "tuple") (rON (wd X) tupleO) := by
  intro pins s σ H vs us Q I rv h
  obtain ⟨as, S, ds, sr, r, w⟩ := h
  unfold tupleO at w
  split at w
  · obtain ⟨v, rfl, r1⟩ := DVRs.one r
    split at w
    · rename_i xs e
      rcases tup_or_lst sr r1 e with e | e
      · subst e
        cases r1 with
        | tup h1 t1 => exact call_tupZ pins s σ H _ us Q I rv ⟨_, _, rfl, .inr ⟨h1.sq, w.here sr (.tup h1 t1)⟩⟩
      · obtain ⟨a, vs, rfl, z, q, t⟩ := litems_sq sr r1 e
        exact call_tupZ pins s σ H _ us Q I rv ⟨_, _, rfl, .inl ⟨q, w.tup sr z t⟩⟩
    · exact w.elim
  · exact w.elim
end
/-- a built-in that gives a new list -/
abbrev OpF := List DV → AH → Option (List PV)
def rFN (M : Wd) (o : OpF) : List V → Hp → VK → Prop := fun vs H Q => ∃ as S ds ps, SR M as H S ∧ DVRs M as H vs ds ∧ o ds S = some ps ∧ ∀ p ws, ws.length ≤ sizeLine → PRs M as H ws ps → H p = none → Q (.ref p) (upd H p (.lst ws))
def dAppF (o : OpF) (fa : Sig → AH → Res (List DV)) : Sig → AH → Res (List PV) := fun δ S => (fa δ S).bind fun ds S => match o ds S with
  | some ps => .ok ps S
  | none => .bad
section
variable {X : Cx} {E : L2.St → XK} {a b c : Expr} {es : List Expr} {p pos : Pos} {x : Str} {T id : String} {fa fb fc : Sig → AH → Res DV} {fs : Sig → AH → Res (List DV)} {o : OpF}
theorem tAppF {σ : L2.St} {H : Hp} {Q : VK} {as : As} {δ : Sig} {S : AH} (sr : SR (wd X) as H S) (er : ER (wd X) as H σ δ) (w : WF (wd X) (E σ) as H (dAppF o fs δ S) Q) : tCB (rFN (wd X) o) (tDA (wd X) E fs) σ H Q :=
  ⟨as, δ, S, sr, er, (WF.bind w).mono fun _ _ _ _ _ _ _ _ _ ⟨as1, S1, d1, _, x1, s1, r1, w1⟩ => by
    split at w1
    · rename_i ps e
      exact ⟨as1, S1, d1, ps, s1, r1, e, fun p ws z t n => w1.here s1 z t n⟩
    · exact w1.elim⟩
theorem fe_callB (hc : CallR X (.builtin id) (rFN (wd X) o)) (hg : Gl X x) (hm : X.mg x = none) (hv : bootBuiltins x = some (.builtin id)) (ha : DA X E (a :: es) fs) (hn : x ≠ "__name__" := by decide) (hdb : (x == ("__debug__" : Str)) = false := by decide)
    (he : starEach (a :: es) X.env = (false, eval a X.env) :: starEach es X.env := by rfl) (hpl : (backTo pos (starEach es X.env)).any (·.1) = false := by rfl) : FE X E (.Call (.Name x p) (a :: es) [] pos) (dAppF o fs) := (pe_callB hc hg hm hv ha hn hdb he hpl).imp fun σ H Q ⟨as, δ, S, sr, er, w⟩ => tAppF sr er w
theorem fe_callTy (hc : CallR X (.type T) (rFN (wd X) o)) (hg : Gl X x) (hm : X.mg x = none) (hv : bootBuiltins x = some (.type T)) (ha : DA X E (a :: es) fs) (hn : x ≠ "__name__" := by decide) (hdb : (x == ("__debug__" : Str)) = false := by decide)
    (he : starEach (a :: es) X.env = (false, eval a X.env) :: starEach es X.env := by rfl) (hpl : (backTo pos (starEach es X.env)).any (·.1) = false := by rfl) : FE X E (.Call (.Name x p) (a :: es) [] pos) (dAppF o fs) := (pe_callTy hc hg hm hv ha hn hdb he hpl).imp fun σ H Q ⟨as, δ, S, sr, er, w⟩ => tAppF sr er w
end
def listF : OpF := fun ds S => match ds with
  | [d] => items d S
  | _ => none
/-- sorted numbers -/
def insI (a : Int) : List Int → List Int
  | [] => [a]
  | b :: r => if a ≤ b then a :: b :: r else b :: insI a r
def sortI : List Int → List Int
  | [] => []
  | a :: r => insI a (sortI r)
theorem insI_perm (a : Int) : ∀ l, (insI a l).Perm (a :: l)
  | [] => .refl _
  | b :: r => by
    unfold insI
    split
    · exact .refl _
    · exact (List.Perm.cons b (insI_perm a r)).trans (List.Perm.swap a b r)
theorem sortI_perm : ∀ l, (sortI l).Perm l
  | [] => .refl _
  | a :: r => (insI_perm a (sortI r)).trans (List.Perm.cons a (sortI_perm r))
theorem insI_sorted (a : Int) : ∀ {l : List Int}, l.Pairwise (· ≤ ·) → (insI a l).Pairwise (· ≤ ·)
  | [], _ => by simp [insI]
  | b :: r, h => by
    have h' := List.pairwise_cons.mp h
    unfold insI
    split
    · rename_i z
      refine List.pairwise_cons.mpr ⟨fun y hy => ?_, h⟩
      rcases List.mem_cons.mp hy with rfl | hy
      · exact z
      · have := h'.1 y hy; omega
    · rename_i z
      refine List.pairwise_cons.mpr ⟨fun y hy => ?_, insI_sorted a h'.2⟩
      rcases List.mem_cons.mp ((insI_perm a r).mem_iff.mp hy) with rfl | hy
      · omega
      · exact h'.1 y hy
theorem sortI_sorted : ∀ l, (sortI l).Pairwise (· ≤ ·)
  | [] => .nil
  | a :: r => insI_sorted a (sortI_sorted r)
theorem sortI_only {l m : List Int} (h : m.Perm l) (s : m.Pairwise (· ≤ ·)) : m = sortI l := PySem.W.ksm_same (h.trans (sortI_perm l).symm) s (sortI_sorted l)
def sortedF : OpF := fun ds S => match ds with
  | [.p (.tup xs)] => match intsOf xs with
    | some ns => some ((sortI ns).map PV.int)
    | none => none
  | [d] => match litems d S with
    | some xs => match intsOf xs with
      | some ns => some ((sortI ns).map PV.int)
      | none => none
    | none => none
  | _ => none
section
variable {X : Cx}
theorem ow_list : CallR X (.type "list") (rFN (wd X) listF) := by
  intro pins s σ H vs us Q I rv h
  obtain ⟨as, S, ds, ps, sr, r, e, q⟩ := h
  unfold listF at e
  split at e
  · obtain ⟨v, rfl, r1⟩ := DVRs.one r
    obtain ⟨a, vs, rfl, z, q2, t⟩ := items_sq sr r1 e
    exact call_list_of pins s σ H _ us Q I rv ⟨a, vs, rfl, q2, fun p n => q p vs z t n⟩
  · cases e
theorem ow_sorted : CallR X (.builtin "sorted") (rFN (wd X) sortedF) := by
  intro pins s σ H vs us Q I rv h
  obtain ⟨as, S, ds, ps, sr, r, e, q⟩ := h
  unfold sortedF at e
  split at e
  · obtain ⟨v, rfl, r1⟩ := DVRs.one r
    cases r1 with
    | tup h t =>
      split at e
      · rename_i ns e2
        cases e
        rw [intsOf_ok e2] at t
        have hz := h.1
        have q2 := h.sq
        rw [t.ints] at q2 hz
        refine cr_sortedTI pins s σ H _ us Q I rv ⟨_, ns, rfl, q2, fun ns' p h1 h2 n => ?_⟩
        rw [sortI_only h1 h2]
        refine q p _ ?_ (PRs.of_ints _) n
        rw [List.length_map, (sortI_perm ns).length_eq, ← List.length_map (f := V.int)]
        exact hz
      · cases e
  · obtain ⟨v, rfl, r1⟩ := DVRs.one r
    split at e
    · rename_i xs e1
      obtain ⟨a, vs, rfl, z, q2, t⟩ := litems_sq sr r1 e1
      split at e
      · rename_i ns e2
        cases e
        rw [intsOf_ok e2] at t
        have hl : vs.length = ns.length := by rw [t.length, List.length_map]
        rw [t.ints] at q2
        refine cr_sortedI pins s σ H _ us Q I rv ⟨a, ns, rfl, q2, fun ns' p h1 h2 n => ?_⟩
        rw [sortI_only h1 h2]
        refine q p _ ?_ (PRs.of_ints _) n
        rw [List.length_map, (sortI_perm ns).length_eq, ← hl]
        exact z
      · cases e
    · cases e
  · cases e
end

/-! ### isinstance -/
def tyName : DV → AH → Option String
  | .p .non, _ => some "NoneType"
  | .p (.bl _), _ => some "bool"
  | .p (.int _), _ => some "int"
  | .p (.str _), _ => some "str"
  | .p (.tup _), _ => some "tuple"
  | .p (.lst _), _ => some "list"
  | .p (.fro _), _ => some "list"
  | .p (.glob _), _ => none
  | .c n, S => match S[n]? with
    | some (.lst _) => some "list"
    | _ => none
/-- is a value of the type a one of the type b -/
def isTy (a b : String) : Bool := a == b || (a == "bool" && b == "int")
def tyNames : List String := ["NoneType", "bool", "int", "str", "tuple", "list"]
def tyOk (b : String) : Bool := tyNames.all fun a => decide (kitB a b = some (isTy a b))
theorem tyName_in {d : DV} {S : AH} {a : String} (h : tyName d S = some a) : a ∈ tyNames := by
  unfold tyName at h
  split at h <;> first | (cases h; decide) | (cases h) | skip
  split at h
  · cases h; decide
  · cases h
theorem tyName_ty {M : Wd} {as : As} {H : Hp} {S : AH} {d : DV} {v : V} {a : String} (sr : SR M as H S) (r : DVR M as H v d) (h : tyName d S = some a) : TyX M.K H v (.type a) := by
  cases d with
  | p x =>
    cases x with
    | non => cases h; cases r; exact .base .non
    | bl b => cases h; cases r; exact .base (.bl _)
    | int i => cases h; cases r; exact .base (.int _)
    | str x => cases h; cases r; exact .base (.str _)
    | tup xs =>
      cases h
      cases r with
      | tup h1 t1 =>
        rcases h1.2 with ⟨⟨o, _, e⟩, _⟩ | ⟨o, its, n, hk, hc, _⟩
        · exact .fTuple e
        · exact .kTuple hk hc
    | lst xs => cases h; cases r with | lst h1 t1 => exact .base (.lst h1.2.1)
    | fro xs =>
      cases h
      cases r with
      | fro h1 t1 =>
        rcases h1.2 with ⟨⟨o, e⟩, _⟩ | ⟨o, its, n, hk, hc, _⟩
        · exact .base (.frz e)
        · exact .kList hk hc
    | glob n => cases h
  | c n =>
    obtain ⟨b, eb, rfl⟩ := r
    simp only [tyName] at h
    split at h
    · rename_i xs q
      cases h
      obtain ⟨b2, vs, eb2, z, hb, t⟩ := sr.at q
      rw [eb] at eb2; cases eb2
      exact .base (.lst hb)
    · cases h
def dIsi (T : String) (fa : Sig → AH → Res DV) : Sig → AH → Res DV := fun δ S => (fa δ S).bind fun a S => match tyName a S with
  | some t => .ok (.p (.bl (isTy t T))) S
  | none => .bad
theorem kit_any {K : PySem.W.Frag} {a : String} (ha : a ∈ tyNames) : ∀ {Ts : List String}, (∀ T ∈ Ts, tyOk T = true) → PySem.W.kitAny K (.type a) (Ts.map Value.type) = some (Ts.any fun T => isTy a T)
  | [], _ => rfl
  | T :: r, h => by
    have h1 : kitB a T = some (isTy a T) := of_decide_eq_true (List.all_eq_true.mp (h T List.mem_cons_self) a ha)
    have h2 := kit_any (K := K) ha (Ts := r) fun U hU => h U (List.mem_cons_of_mem _ hU)
    show PySem.W.kitAny K (.type a) (.type T :: r.map Value.type) = some (isTy a T || r.any fun T => isTy a T)
    cases e : isTy a T with
    | true =>
      rw [e] at h1
      exact kitAny_cons (b := true) (r := true) (kit_ty h1) (fun z => nomatch z) fun _ => rfl
    | false =>
      rw [e] at h1
      rw [Bool.false_or]
      exact kitAny_cons (b := false) (kit_ty h1) (fun _ => h2) fun z => nomatch z
def dIsiT (Ts : List String) (fa : Sig → AH → Res DV) : Sig → AH → Res DV := fun δ S => (fa δ S).bind fun a S => match tyName a S with
  | some t => .ok (.p (.bl (Ts.any fun T => isTy t T))) S
  | none => .bad
section
variable {X : Cx} {E : L2.St → XK} {a : Expr} {p q q1 q2 pos tpos : Pos} {T T2 : String} {x y : Str} {k : Nat} {fa : Sig → AH → Res DV}
theorem de_isi (hT : tyOk T = true) (hg : Gl X "isinstance") (hm : X.mg "isinstance" = none) (gx : Gl X x) (mx : X.mg x = none) (bx : bootBuiltins x = some (.type T)) (ha : DE X E a fa) (nx : x ≠ "__name__" := by decide) (dx : (x == ("__debug__" : Str)) = false := by decide)
    (he : starEach [a, .Name x q] X.env = (false, eval a X.env) :: starEach [.Name x q] X.env := by rfl) :
    DE X E (.Call (.Name "isinstance" p) [a, .Name x q] [] pos) (dIsi T fa) :=
  (pe_callB call_isi hg hm (show bootBuiltins "isinstance" = some (.builtin "isinstance") by decide +kernel) (pa_cons ha (pa_cons (pe_bltn (v := .ty T) gx mx bx rfl nx dx) pa_nil) he) (by decide) (by decide) he).imp fun σ H Q ⟨as, δ, S, sr, er, w⟩ =>
    ⟨as, δ, S, sr, er, w.bind.mono fun _ _ _ _ v _ _ _ _ ⟨as1, S1, d1, _, x1, s1, r1, w1⟩ => by
      split at w1
      · rename_i t e
        have h1 : kitB t T = some (isTy t T) := of_decide_eq_true (List.all_eq_true.mp hT t (tyName_in e))
        exact ⟨v, .ty T, _, _, _, rfl, .ty T, tyName_ty s1 r1 e, kit_ty h1, WR.pure w1 s1 (.bl _)⟩
      · exact w1.elim⟩
theorem de_isi2 (hT : tyOk T = true) (hT2 : tyOk T2 = true) (hg : Gl X "isinstance") (hm : X.mg "isinstance" = none) (gx : Gl X x) (mx : X.mg x = none) (bx : bootBuiltins x = some (.type T)) (gy : Gl X y) (my : X.mg y = none) (yx : bootBuiltins y = some (.type T2)) (ha : DE X E a fa)
    (nx : x ≠ "__name__" := by decide) (dx : (x == ("__debug__" : Str)) = false := by decide) (ny : y ≠ "__name__" := by decide) (dy : (y == ("__debug__" : Str)) = false := by decide)
    (he : starEach [a, .Tuple [.Name x q1, .Name y q2] k tpos] X.env = (false, eval a X.env) :: starEach [.Tuple [.Name x q1, .Name y q2] k tpos] X.env := by rfl) :
    DE X E (.Call (.Name "isinstance" p) [a, .Tuple [.Name x q1, .Name y q2] k tpos] [] pos) (dIsiT [T, T2] fa) :=
  (pe_callB call_isiT hg hm (show bootBuiltins "isinstance" = some (.builtin "isinstance") by decide +kernel) (pa_cons ha (pa_cons (pe_tup (pa_cons (pe_bltn (v := .ty T) gx mx bx rfl nx dx) (pa_cons (pe_bltn (v := .ty T2) gy my yx rfl ny dy) pa_nil))) pa_nil) he) (by decide) (by decide) he).imp fun σ H Q ⟨as, δ, S, sr, er, w⟩ =>
    ⟨as, δ, S, sr, er, w.bind.mono fun _ _ _ H1 v _ _ _ _ ⟨as1, S1, d1, _, x1, s1, r1, w1⟩ => by
      split at w1
      · rename_i t e
        refine ⟨by show 2 ≤ sizeLine; decide, fun tp n => ⟨v, tp, [.ty T, .ty T2], _, [.type T, .type T2], _, rfl, upd_same, .cons (.ty T) (.cons (.ty T2) .nil), tyName_ty (s1.new n) (r1.mono (ext_new s1 n).w) e, kit_any (tyName_in e) (Ts := [T, T2]) ?_, ?_⟩⟩
        · intro U hU
          rcases List.mem_cons.mp hU with rfl | hU
          · exact hT
          · rw [List.mem_singleton.mp hU]; exact hT2
        · exact w1 _ _ _ (ext_new s1 n) (s1.new n) (.bl _)
      · exact w1.elim⟩
end
end
end DL
namespace DL
noncomputable section
open PySem PySem.Spec PyProof.Rows L2

/-! ### targets: names and tuples of them -/
inductive Pat where
  | nm (i : Nat) | tp (ps : List Pat)
mutual
def Pat.set : Pat → DV → Sig → Option Sig
  | .nm i, d, δ => some (δ.set i (some d))
  | .tp ps, d, δ => match d with
    | .p (.tup xs) => Pat.sets ps (xs.map DV.p) δ
    | .p (.lst xs) => Pat.sets ps (xs.map DV.p) δ
    | _ => none
def Pat.sets : List Pat → List DV → Sig → Option Sig
  | [], [], δ => some δ
  | q :: qs, x :: xs, δ => (Pat.set q x δ).bind fun δ' => Pat.sets qs xs δ'
  | _, _, _ => none
end
mutual
def Pat.slots : Pat → List Nat
  | .nm i => [i]
  | .tp ps => Pat.slotss ps
def Pat.slotss : List Pat → List Nat
  | [] => []
  | q :: qs => Pat.slots q ++ Pat.slotss qs
end
def gOr (t u : TG) : TG := fun v σ H Q => t v σ H Q ∨ u v σ H Q
mutual
def tPat (K : PySem.W.Frag) : Pat → TG
  | .nm i => gName i
  | .tp ps => gOr (gTup K ps.length (tPats K ps)) (gLst K ps.length (tPats K ps))
def tPats (K : PySem.W.Frag) : List Pat → TGs
  | [] => gNil
  | q :: qs => gCons (tPat K q) (tPats K qs)
end
theorem PG.or {X : Cx} {e : Expr} {t u : TG} (h : PG X e t) (h' : PG X e u) : PG X e (gOr t u) := ⟨fun pins s σ H v w Q I r q => by
  rcases q with q | q
  · exact h.run pins s σ H v w Q I r q
  · exact h'.run pins s σ H v w Q I r q⟩
theorem wipe_set (i : Nat) (v : Option V) : ∀ (vs : List Nat) (σ : L2.St), i ∈ vs → L2.wipe (σ.set i v) vs = L2.wipe σ vs
  | [], _, h => nomatch h
  | j :: vs, σ, h => by
    show (L2.wipe (σ.set i v) vs).set j none = (L2.wipe σ vs).set j none
    by_cases e : i = j
    · subst e
      have go : ∀ (vs : List Nat) (σ : L2.St), (L2.wipe (σ.set i v) vs).set i none = (L2.wipe σ vs).set i none := by
        intro vs
        induction vs with
        | nil => intro σ; show (σ.set i v).set i none = σ.set i none; rw [List.set_set]
        | cons k vs ih =>
          intro σ
          show ((L2.wipe (σ.set i v) vs).set k none).set i none = ((L2.wipe σ vs).set k none).set i none
          by_cases e : k = i
          · subst e; rw [List.set_set, List.set_set]; exact ih σ
          · rw [List.set_comm _ _ e, ih σ, List.set_comm _ _ (Ne.symm e)]
      exact go vs σ
    · rw [wipe_set i v vs σ ((List.mem_cons.mp h).resolve_left e)]
theorem sets_len : ∀ (qs : List Pat) {ps : List DV} {δ δ' : Sig}, Pat.sets qs ps δ = some δ' → ps.length = qs.length
  | [], [], _, _, _ => rfl
  | [], _ :: _, _, _, e => by simp [Pat.sets] at e
  | _ :: _, [], _, _, e => by simp [Pat.sets] at e
  | q :: qs, x :: xs, _, _, e => by
    simp only [Pat.sets, Option.bind_eq_some_iff] at e
    obtain ⟨δ1, e1, e2⟩ := e
    exact congrArg (· + 1) (sets_len qs e2)
section
variable {M : Wd} {as : As} {H : Hp}
theorem PRs.dvrs : ∀ {vs : List V} {ps : List PV}, PRs M as H vs ps → DVRs M as H vs (ps.map DV.p)
  | _, _, .nil => .nil
  | _, _, .cons r t => .cons r (PRs.dvrs t)
theorem KRs.dvrs : ∀ {vs : List V} {ks : List Nat}, KRs as vs ks → DVRs M as H vs (ks.map DV.c)
  | _, _, .nil => .nil
  | _, _, .cons r t => .cons r (KRs.dvrs t)
theorem DVRs.get : ∀ {vs : List V} {ds : List DV} {i : Nat} {d : DV}, DVRs M as H vs ds → ds[i]? = some d → ∃ v, vs[i]? = some v ∧ DVR M as H v d
  | _, _, i, d, .nil, e => by simp at e
  | _, _, 0, d, .cons r _, e => by simp at e; subst e; exact ⟨_, rfl, r⟩
  | _, _, i + 1, d, .cons _ t, e => by
    obtain ⟨u, h1, h2⟩ := DVRs.get (i := i) (d := d) t (by simpa using e)
    exact ⟨u, by simpa using h1, h2⟩
mutual
theorem tPat_ok : ∀ (q : Pat) {v : V} {p : DV} {σ : L2.St} {δ δ' : Sig} {Q : L2.St → Hp → Prop}, ER M as H σ δ → DVR M as H v p → q.set p δ = some δ' →
    (∀ σ', ER M as H σ' δ' → (∀ vs, (∀ i ∈ q.slots, i ∈ vs) → L2.wipe σ' vs = L2.wipe σ vs) → Q σ' H) → tPat M.K q v σ H Q
  | .nm i, v, p, σ, δ, δ', Q, er, r, e, k => by
    simp only [Pat.set, Option.some.injEq] at e
    subst e
    exact k _ (er.set (d := p) r i) fun vs h => wipe_set i _ vs σ (h i (by simp [Pat.slots]))
  | .tp ps, v, p, σ, δ, δ', Q, er, r, e, k => by
    simp only [Pat.set] at e
    split at e
    · rename_i xs
      cases r with
      | tup h t =>
        exact .inl ⟨_, _, rfl, h.sq, t.length.trans ((List.length_map DV.p).symm.trans (sets_len ps e)), tPats_ok ps er t.dvrs e k⟩
    · rename_i xs
      cases r with
      | lst h t =>
        exact .inr ⟨_, _, rfl, h.sq, t.length.trans ((List.length_map DV.p).symm.trans (sets_len ps e)), tPats_ok ps er t.dvrs e k⟩
    · cases e
theorem tPats_ok : ∀ (qs : List Pat) {vs : List V} {ps : List DV} {σ : L2.St} {δ δ' : Sig} {Q : L2.St → Hp → Prop}, ER M as H σ δ → DVRs M as H vs ps → Pat.sets qs ps δ = some δ' →
    (∀ σ', ER M as H σ' δ' → (∀ ws, (∀ i ∈ Pat.slotss qs, i ∈ ws) → L2.wipe σ' ws = L2.wipe σ ws) → Q σ' H) → tPats M.K qs vs σ H Q
  | [], _, [], σ, δ, δ', Q, er, .nil, e, k => by
    simp only [Pat.sets, Option.some.injEq] at e
    subst e
    exact ⟨rfl, k σ er fun _ _ => rfl⟩
  | [], _, _ :: _, σ, δ, δ', Q, er, _, e, k => by simp [Pat.sets] at e
  | q :: qs, _, [], σ, δ, δ', Q, er, _, e, k => by simp [Pat.sets] at e
  | q :: qs, _, x :: xs, σ, δ, δ', Q, er, .cons r t, e, k => by
    simp only [Pat.sets, Option.bind_eq_some_iff] at e
    obtain ⟨δ1, e1, e2⟩ := e
    refine ⟨_, _, rfl, ?_⟩
    exact tPat_ok q er r e1 fun σ1 er1 w1 => tPats_ok qs er1 t e2 fun σ2 er2 w2 => k σ2 er2 fun ws hw => by
      rw [w2 ws fun i hi => hw i (by simp [Pat.slotss, hi]), w1 ws fun i hi => hw i (by simp [Pat.slotss, hi])]
end
end
abbrev DG (X : Cx) (tg : Expr) (q : Pat) : Prop := PG X tg (tPat X.K q)
abbrev DGs (X : Cx) (tgs : List Expr) (qs : List Pat) : Prop := PGs X tgs (tPats X.K qs)
section
variable {X : Cx} {e : Expr} {es : List Expr} {q : Pat} {qs : List Pat} {pos : Pos}
theorem dg_nm {i : Nat} {x : Str} (hN : X.N.Nodup) (hi : X.N[i]? = some x) (hx : Loc X.env.scope x) (hf : X.fn x = true ∨ X.env.scope.names.lookup x = some .local := by first | exact .inl rfl | exact .inr rfl | assumption) : DG X (.Name x pos) (.nm i) := pg_name hN hi hx hf
theorem dgs_nil : DGs X [] [] := pgs_nil
theorem dgs_cons (h : DG X e q) (t : DGs X es qs) (hs : (assignEach (e :: es) X.env).map (·.2) = assign e X.env :: (assignEach es X.env).map (·.2) := by rfl) : DGs X (e :: es) (q :: qs) := pgs_cons h t hs
theorem dg_tp {k : Nat} (hc : X.calm = true) (h : DGs X es qs) (hn : (assignEach es X.env).length = qs.length := by rfl) (hst : (assignEach es X.env).findIdx? (·.1) = none := by rfl) : DG X (.Tuple es k pos) (.tp qs) :=
  PG.or (pg_tup hc h hn hst) (pg_lst hc h hn hst)
end

/-! ### what is walked -/
structure Yields (M : Wd) (J : It) (xs : List DV) (ck : AH → Prop) (as0 : As) (H0 : Hp) : Prop where
  stop : ∀ as H S, Exw as0 H0 as H → SR M as H S → ck S → J.stop xs.length H
  go : ∀ as H S, Exw as0 H0 as H → SR M as H S → ck S → ∀ i, i < xs.length → J.go i H
  yld : ∀ as H S, Exw as0 H0 as H → SR M as H S → ck S → ∀ (i : Nat) (p : DV) (v : V) (H' : Hp), xs[i]? = some p → J.yld i H v H' → Ext as H as H' ∧ SR M as H' S ∧ DVR M as H' v p
abbrev Its' := List DV × (AH → Prop)
def tI (M : Wd) (E : L2.St → XK) (f : Sig → AH → Res Its') : TI := fun σ H R => ∃ as δ S, SR M as H S ∧ ER M as H σ δ ∧ WR M (E σ) (fun as H J (x : Its') => Yields M J x.1 x.2 as H) as H (f δ S) R
abbrev DI (X : Cx) (E : L2.St → XK) (tg e : Expr) (f : Sig → AH → Res Its') : Prop := PI X tg e (tI (wd X) E f)
theorem PI.imp {X : Cx} {tg e : Expr} {t t' : TI} (h : PI X tg e t) (i : ∀ σ H Q, t' σ H Q → t σ H Q) : PI X tg e t' := ⟨fun pins s σ H Q I q => h.run pins s σ H Q I (i σ H Q q)⟩
def iSeq (K : PySem.W.Frag) (tl : TE) : TI := fun σ H R => tl σ H fun x H1 => (∃ a, x = .ref a ∧ (∃ xs, SqL K H1 a xs) ∧ R (Itl K a) H1) ∨ (∃ a, x = .ref a ∧ (∃ xs, SqT K H1 a xs) ∧ R (Itt K a) H1) ∨ (∃ z, x = .str z ∧ R (Its z) H1)
theorem pi_seq {X : Cx} {tg l : Expr} {tl : TE} (hl : PE X l tl) : PI X tg l (iSeq X.K tl) := by
  refine ⟨fun pins s σ H R I h => ?_⟩
  refine thn (hl.run pins s σ H _ I h) fun v s1 ⟨x, H1, I1, r1, q1⟩ => ?_
  rcases q1 with ⟨a, e, ⟨xs, hq⟩, q⟩ | ⟨a, e, ⟨xs, hq⟩, q⟩ | ⟨z, e, q⟩
  · subst e
    cases r1
    obtain ⟨its, rv, p, hz⟩ := I1.list hq
    refine wpAny_pyIter_list p.isList ?_
    refine ⟨s1.heap.objs.size, [s1.heap.objs.size], _, _, H1, rfl, I1.kept (t' := s1.toks) fun b o e => Heap.get?_push_of_some _ e, turn_list a _, ⟨_, Heap.get?_push_size _ rfl, rfl, rfl⟩, fun b hb => ?_, q⟩
    have e : b = s1.heap.objs.size := by simpa using hb
    subst e
    exact I1.fpOk (Nat.le_refl _) (I1.hok.fresh (Nat.le_refl _))
  · subst e
    cases r1
    obtain ⟨its, rv, p, hz⟩ := I1.tuple hq
    refine wpAny_pyIter_tuple (show s1.heap.IsTuple a its.toArray from p) ?_
    refine ⟨s1.heap.objs.size, [s1.heap.objs.size], _, _, H1, rfl, I1.kept (t' := s1.toks) fun b o e => Heap.get?_push_of_some _ e, turn_tuple a _, ⟨_, Heap.get?_push_size _ rfl, rfl, rfl⟩, fun b hb => ?_, q⟩
    have e : b = s1.heap.objs.size := by simpa using hb
    subst e
    exact I1.fpOk (Nat.le_refl _) (I1.hok.fresh (Nat.le_refl _))
  · subst e
    obtain ⟨t, rfl⟩ := r1
    cases ha : z.cps.all (· < 128)
    · exact wpAny_pyIter_wide ha (pi_one (tk := s1.toks) I1 _ (turn_str _ z t "str_iterator" (.inr rfl)) ⟨_, Heap.get?_push_size _ rfl, rfl, rfl⟩ q)
    · exact wpAny_pyIter_ascii ha (pi_one (tk := s1.toks) I1 _ (turn_str _ z t "str_ascii_iterator" (.inl rfl)) ⟨_, Heap.get?_push_size _ rfl, rfl, rfl⟩ q)
/-- the signs of a text -/
def signs (z : Str) : List DV := z.cps.toList.map fun c => .p (.str ⟨#[c]⟩)
def dit (xs : List PV) : List DV := xs.map DV.p
def dic (ks : List Nat) : List DV := ks.map DV.c
@[simp] theorem dit_nil : dit [] = [] := (rfl)
@[simp] theorem dit_cons {x : PV} {xs : List PV} : dit (x :: xs) = .p x :: dit xs := (rfl)
@[simp] theorem dit_len {xs : List PV} : (dit xs).length = xs.length := List.length_map _
@[simp] theorem dic_nil : dic [] = [] := (rfl)
@[simp] theorem dic_cons {k : Nat} {ks : List Nat} : dic (k :: ks) = .c k :: dic ks := (rfl)
@[simp] theorem dic_len {ks : List Nat} : (dic ks).length = ks.length := List.length_map _
def dSeqI (fa : Sig → AH → Res DV) : Sig → AH → Res Its' := fun δ S => (fa δ S).bind fun d S => match d with
  | .p (.tup xs) => .ok (dit xs, fun _ => True) S
  | .p (.lst xs) => .ok (dit xs, fun _ => True) S
  | .p (.fro xs) => .ok (dit xs, fun _ => True) S
  | .p (.str z) => .ok (signs z, fun _ => True) S
  | .c n => match S[n]? with
    | some (.lst xs) => .ok (dit xs, fun S' => S'[n]? = some (.lst xs)) S
    | some (.nst ks) => .ok (dic ks, fun S' => S'[n]? = some (.nst ks)) S
    | _ => .bad
  | _ => .bad
theorem yields_lst {M : Wd} {as0 : As} {H0 : Hp} {a : Addr} {xs : List DV} {ck : AH → Prop} (h : ∀ as H S, Exw as0 H0 as H → SR M as H S → ck S → ∃ vs, SqL M.K H a vs ∧ DVRs M as H vs xs) : Yields M (Itl M.K a) xs ck as0 H0 where
  stop as H S x s c := by
    obtain ⟨vs, q, t⟩ := h as H S x s c
    exact ⟨vs, q, by rw [Paired.length t]; exact Nat.le_refl _⟩
  go as H S x s c i hi := by
    obtain ⟨vs, q, t⟩ := h as H S x s c
    have hi' : i < vs.length := by rw [Paired.length t]; exact hi
    exact ⟨vs, vs[i], q, List.getElem?_eq_getElem hi'⟩
  yld as H S x s c i p v H' hp y := by
    obtain ⟨vs, q, t⟩ := h as H S x s c
    obtain ⟨e, y⟩ := y
    subst e
    obtain ⟨w, e1, r⟩ := DVRs.get t hp
    rw [y vs q] at e1; cases e1
    exact ⟨Ext.refl _ _, s, r⟩
theorem yields_tup {M : Wd} {as0 : As} {H0 : Hp} {a : Addr} {xs : List DV} {ck : AH → Prop} (h : ∀ as H S, Exw as0 H0 as H → SR M as H S → ck S → ∃ vs, SqT M.K H a vs ∧ DVRs M as H vs xs) : Yields M (Itt M.K a) xs ck as0 H0 where
  stop as H S x s c := by
    obtain ⟨vs, q, t⟩ := h as H S x s c
    exact ⟨vs, q, by rw [Paired.length t]; exact Nat.le_refl _⟩
  go as H S x s c i hi := by
    obtain ⟨vs, q, t⟩ := h as H S x s c
    have hi' : i < vs.length := by rw [Paired.length t]; exact hi
    exact ⟨vs, vs[i], q, List.getElem?_eq_getElem hi'⟩
  yld as H S x s c i p v H' hp y := by
    obtain ⟨vs, q, t⟩ := h as H S x s c
    obtain ⟨e, y⟩ := y
    subst e
    obtain ⟨w, e1, r⟩ := DVRs.get t hp
    rw [y vs q] at e1; cases e1
    exact ⟨Ext.refl _ _, s, r⟩
theorem yields_str {M : Wd} {as0 : As} {H0 : Hp} {z : Str} {ck : AH → Prop} : Yields M (Its z) (signs z) ck as0 H0 where
  stop as H S x s c := by
    show z.cps.size ≤ (signs z).length
    unfold signs
    simp
  go as H S x s c i hi := by
    show i < z.cps.size
    unfold signs at hi
    simpa using hi
  yld as H S x s c i p v H' hp y := by
    obtain ⟨e, cc, e1, e2⟩ := y
    subst e e2
    unfold signs at hp
    rw [List.getElem?_map, Array.getElem?_toList, e1] at hp
    cases hp
    exact ⟨Ext.refl _ _, s, PR.str _⟩
/-- lo, lo + 1, .. -/
def rangeI (lo : Int) (n : Nat) : List DV := (List.range n).map fun (i : Nat) => DV.p (.int (lo + (i : Int)))
def rangeC (lo c : Int) (n : Nat) : List DV := (List.range n).map fun (i : Nat) => DV.p (.int (lo + (i : Int) * c))
theorem yields_rng {M : Wd} {as0 : As} {H0 : Hp} {lo : Int} {n : Nat} {ck : AH → Prop} : Yields M (Itr lo n) (rangeI lo n) ck as0 H0 where
  stop as H S x s c := by
    show n ≤ (rangeI lo n).length
    unfold rangeI
    simp
  go as H S x s c i hi := by
    show i < n
    unfold rangeI at hi
    simpa using hi
  yld as H S x s c i p v H' hp y := by
    obtain ⟨e, e2⟩ := y
    subst e e2
    unfold rangeI at hp
    have hi : i < n := by
      have := (List.getElem?_eq_some_iff.mp hp).1
      simpa using this
    rw [List.getElem?_map, List.getElem?_range hi] at hp
    cases hp
    exact ⟨Ext.refl _ _, s, PR.int _⟩
theorem yields_rngC {M : Wd} {as0 : As} {H0 : Hp} {lo cc : Int} {n : Nat} {ck : AH → Prop} : Yields M (Itc lo cc n) (rangeC lo cc n) ck as0 H0 where
  stop as H S x s c := by
    show n ≤ (rangeC lo cc n).length
    unfold rangeC
    simp
  go as H S x s c i hi := by
    show i < n
    unfold rangeC at hi
    simpa using hi
  yld as H S x s c i p v H' hp y := by
    obtain ⟨e, e2⟩ := y
    subst e e2
    unfold rangeC at hp
    have hi : i < n := by
      have := (List.getElem?_eq_some_iff.mp hp).1
      simpa using this
    rw [List.getElem?_map, List.getElem?_range hi] at hp
    cases hp
    exact ⟨Ext.refl _ _, s, PR.int _⟩
def small62 (i : Int) : Prop := -(2 ^ 62) ≤ i ∧ i < 2 ^ 62
noncomputable instance (i : Int) : Decidable (small62 i) := Classical.propDecidable _
def dRng1 (fs : Sig → AH → Res (List DV)) : Sig → AH → Res Its' := fun δ S => (fs δ S).bind fun ds S => match ds with
  | [.p (.int j)] => if small62 j then .ok (rangeI 0 j.toNat, fun _ => True) S else .bad
  | _ => .bad
def dRng2 (fs : Sig → AH → Res (List DV)) : Sig → AH → Res Its' := fun δ S => (fs δ S).bind fun ds S => match ds with
  | [.p (.int i), .p (.int j)] => if small62 i ∧ small62 j then .ok (rangeI i (j - i).toNat, fun _ => True) S else .bad
  | _ => .bad
/-- downwards by ones -/
def dRng3 (fs : Sig → AH → Res (List DV)) : Sig → AH → Res Its' := fun δ S => (fs δ S).bind fun ds S => match ds with
  | [.p (.int i), .p (.int j), .p (.int c)] => if c = -1 ∧ small62 i ∧ small62 j then .ok (rangeC i (-1) (i - j).toNat, fun _ => True) S else .bad
  | _ => .bad
section
variable {X : Cx} {E : L2.St → XK} {tg a b c : Expr} {p pos : Pos} {fa : Sig → AH → Res DV} {fs : Sig → AH → Res (List DV)}
theorem di_seq (ha : DE X E a fa) : DI X E tg a (dSeqI fa) := PI.imp (pi_seq ha) fun σ H R ⟨as, δ, S, sr, er, w⟩ =>
  ⟨as, δ, S, sr, er, w.bind.mono fun _ _ _ H1 v _ _ _ _ ⟨as1, S1, d1, _, x1, s1, r1, w1⟩ => by
    split at w1
    · cases r1 with
      | tup h t => exact .inr (.inl ⟨_, rfl, ⟨_, h.sq⟩, WR.pure w1 s1 (yields_tup fun as H S x s c => ⟨_, (h.mono x).sq, (t.mono x).dvrs⟩)⟩)
    · cases r1 with
      | lst h t => exact .inl ⟨_, rfl, ⟨_, h.sq⟩, WR.pure w1 s1 (yields_lst fun as H S x s c => ⟨_, (h.mono x).sq, (t.mono x).dvrs⟩)⟩
    · cases r1 with
      | fro h t => exact .inl ⟨_, rfl, ⟨_, h.sq⟩, WR.pure w1 s1 (yields_lst fun as H S x s c => ⟨_, (h.mono x).sq, (t.mono x).dvrs⟩)⟩
    · cases r1
      exact .inr (.inr ⟨_, rfl, WR.pure w1 s1 yields_str⟩)
    · obtain ⟨a, ea, rfl⟩ := r1
      split at w1
      · rename_i xs q
        obtain ⟨b, vs, eb, z, hb, t⟩ := s1.at q
        rw [ea] at eb; cases eb
        refine .inl ⟨_, rfl, ⟨_, .of hb⟩, WR.pure w1 s1 (yields_lst fun as H S x s c => ?_)⟩
        obtain ⟨b, vs, eb, z, hb, t⟩ := s.at c
        rw [x.get ea] at eb; cases eb
        exact ⟨_, .of hb, t.dvrs⟩
      · rename_i ks q
        obtain ⟨b, vs, eb, z, hb, t⟩ := s1.atN q
        rw [ea] at eb; cases eb
        refine .inl ⟨_, rfl, ⟨_, .of hb⟩, WR.pure w1 s1 (yields_lst fun as H S x s c => ?_)⟩
        obtain ⟨b, vs, eb, z, hb, t⟩ := s.atN c
        rw [x.get ea] at eb; cases eb
        exact ⟨_, .of hb, KRs.dvrs t⟩
      · exact w1.elim
    · exact w1.elim⟩
theorem di_rng1 (hg : Gl X "range") (hm : X.mg "range" = none) (ha : DA X E [a] fs) (hs : starEach [a] X.env = [(false, eval a X.env)] := by rfl) : DI X E tg (.Call (.Name "range" p) [a] [] pos) (dRng1 fs) := PI.imp (pi_range1 hg hm ha hs) fun σ H R ⟨as, δ, S, sr, er, w⟩ =>
  ⟨as, δ, S, sr, er, w.bind.mono fun _ _ _ H1 v _ _ _ _ ⟨as1, S1, d1, _, x1, s1, r1, w1⟩ => by
    split at w1
    · obtain ⟨v, rfl, r⟩ := DVRs.one r1
      cases r
      split at w1
      · rename_i z
        exact ⟨_, rfl, z.1, z.2, WR.pure w1 s1 yields_rng⟩
      · exact w1.elim
    · exact w1.elim⟩
theorem di_rng2 (hg : Gl X "range") (hm : X.mg "range" = none) (ha : DA X E [a, b] fs) (hs : starEach [a, b] X.env = [(false, eval a X.env), (false, eval b X.env)] := by rfl) (hs2 : starEach [b] X.env = [(false, eval b X.env)] := by rfl) : DI X E tg (.Call (.Name "range" p) [a, b] [] pos) (dRng2 fs) := PI.imp (pi_range2 hg hm ha hs hs2) fun σ H R ⟨as, δ, S, sr, er, w⟩ =>
  ⟨as, δ, S, sr, er, w.bind.mono fun _ _ _ H1 v _ _ _ _ ⟨as1, S1, d1, _, x1, s1, r1, w1⟩ => by
    split at w1
    · obtain ⟨v, v2, rfl, r, r'⟩ := DVRs.two r1
      cases r; cases r'
      split at w1
      · rename_i z
        exact ⟨_, _, rfl, ⟨z.1.1, z.1.2, z.2.1, z.2.2⟩, WR.pure w1 s1 yields_rng⟩
      · exact w1.elim
    · exact w1.elim⟩
theorem DVRs.three {M : Wd} {as : As} {H : Hp} {vs : List V} {d e f : DV} (r : DVRs M as H vs [d, e, f]) : ∃ v w u, vs = [v, w, u] ∧ DVR M as H v d ∧ DVR M as H w e ∧ DVR M as H u f := by
  cases r with
  | cons h t =>
    obtain ⟨w, u, rfl, h2, h3⟩ := DVRs.two t
    exact ⟨_, _, _, rfl, h, h2, h3⟩
theorem di_rng3 (hg : Gl X "range") (hm : X.mg "range" = none) (ha : DA X E [a, b, c] fs) (hs : starEach [a, b, c] X.env = (false, eval a X.env) :: starEach [b, c] X.env := by rfl) (hpl : (backTo pos (starEach [b, c] X.env)).any (·.1) = false := by rfl) : DI X E tg (.Call (.Name "range" p) [a, b, c] [] pos) (dRng3 fs) := PI.imp (pi_range3 hg hm ha hs hpl) fun σ H R ⟨as, δ, S, sr, er, w⟩ =>
  ⟨as, δ, S, sr, er, w.bind.mono fun _ _ _ H1 v _ _ _ _ ⟨as1, S1, d1, _, x1, s1, r1, w1⟩ => by
    split at w1
    · obtain ⟨v, v2, v3, rfl, r, r', r''⟩ := DVRs.three r1
      cases r; cases r'; cases r''
      split at w1
      · rename_i z
        obtain ⟨rfl, z1, z2⟩ := z
        exact ⟨_, _, _, _, rfl, RgC.neg z1.1 z1.2 z2.1 z2.2, WR.pure w1 s1 yields_rngC⟩
      · exact w1.elim
    · exact w1.elim⟩
end
end
end DL
namespace DL
noncomputable section
open PySem PySem.Spec PyProof.Rows L2

/-! ### what a body may let out -/
structure Gd (X : Cx) (E : L2.St → XK) : Prop where
  calm : X.calm = true
  tk : Takes X (fun cls d σ H => E σ cls d H)
  po : PassesOwn (model X.prog X.w) X.A X.env X.xe
theorem Gd.pass {X : Cx} {E : L2.St → XK} (g : Gd X E) (σ : L2.St) : PassesAt (L2.CX X.prog X.w) X σ (E σ) := passAt (W := fun cls d σ H => E σ cls d H) g.tk σ
abbrev EN : L2.St → XK := fun _ _ _ _ => False
theorem Gd.blk {X : Cx} {E : L2.St → XK} (g : Gd X E) (s : Shared) (H : Hp) (scope : Scope) (cenv : Env) (fp : List Addr) : Gd (X.blk s H scope cenv fp) EN := ⟨g.calm, takes0, .never⟩

/-! ### calls of defs -/
def spD (B : Wd) (F : List DV → AH → Res DV) : Sp := fun vs H Q E => ∃ as ds S, SR B as H S ∧ DVRs B as H vs ds ∧ WR B E (DVR B) as H (F ds S) Q
def dCall (F : List DV → AH → Res DV) (fs : Sig → AH → Res (List DV)) : Sig → AH → Res DV := fun δ S => (fs δ S).bind fun ds S => F ds S
section
variable {X : Cx} {E : L2.St → XK} {k : Nat} {f : Addr} {fd : FuncData} {ps : List Str} {F : List DV → AH → Res DV} {x : Str} {p pos : Pos} {a : Expr} {es : List Expr} {fs : Sig → AH → Res (List DV)}
theorem de_call (g : Gd X E) (G : FnOk X.prog X.w X.K X.mg X.base (L2.CX X.prog X.w) k f fd ps (spD ⟨X.K, X.mg⟩ F)) (hr : Room k X.A) (hg : Gl X x) (hm : X.mg x = some (.ref f)) (hk : PySem.W.keepIn X.K (.ref f) = true) (hb : Binds X.K fd ps [])
    (ha : DA X E (a :: es) fs) (hdb : (x == ("__debug__" : Str)) = false := by decide) (he : starEach (a :: es) X.env = (false, eval a X.env) :: starEach es X.env := by rfl) (hpl : (backTo pos (starEach es X.env)).any (·.1) = false := by rfl) :
    DE X E (.Call (.Name x p) (a :: es) [] pos) (dCall F fs) := (pe_callS G hr hg hm hk hb (fun σ => g.pass σ) ha hdb he hpl).imp fun σ H Q ⟨as, δ, S, sr, er, w⟩ =>
  ⟨as, δ, S, sr, er, w.bind.mono fun _ _ _ _ _ _ _ _ _ ⟨as1, S1, ds, _, x1, s1, r1, w1⟩ => ⟨as1, ds, S1, s1, r1, w1⟩⟩
end

/-! ### comprehensions -/
/-- within a comprehension nothing may be raised -/
def _root_.DL.Res.nox {α : Type} : Res α → Res α
  | .exc _ _ _ => .bad
  | r => r
@[simp] theorem nox_ok {α : Type} (a : α) (S : AH) : (Res.ok a S).nox = .ok a S := rfl
@[simp] theorem nox_bad {α : Type} : (Res.bad : Res α).nox = .bad := rfl
@[simp] theorem nox_exc {α : Type} (c : Str) (p : List (Str × PV)) (S : AH) : (Res.exc c p S : Res α).nox = .bad := rfl
open Classical in
/-- a comprehension's turns -/
noncomputable def lcGo (ck : AH → Prop) (q : Pat) (fc : Sig → AH → Res Bool) (fe : Sig → AH → Res DV) (δ : Sig) : List DV → AH → Res (List PV)
  | [], S => if ck S then .ok [] S else .bad
  | x :: xs, S => if ck S then match q.set x δ with
    | none => .bad
    | some δ2 => (fc δ2 S).nox.bind fun b S1 => if b = true then (fe δ2 S1).nox.bind fun d S2 => match d with
        | .p y => (lcGo ck q fc fe δ xs S2).bind fun ys S3 => .ok (y :: ys) S3
        | .c _ => .bad
      else lcGo ck q fc fe δ xs S1
    else .bad
noncomputable def dLc (fi : Sig → AH → Res Its') (q : Pat) (fc : Sig → AH → Res Bool) (fe : Sig → AH → Res DV) (vs : List Nat) : Sig → AH → Res (List PV) := fun δ S => (fi δ S).bind fun x S1 => if x.1.length ≤ 16777216 then lcGo x.2 q fc fe (wipeD δ vs) x.1 S1 else .bad
def dYes : Sig → AH → Res Bool := fun _ S => .ok true S
abbrev DTs (X : Cx) (E : L2.St → XK) (cs : List Expr) (f : Sig → AH → Res Bool) : Prop := PTs X cs (tDT (wd X) E f)
section
variable {X : Cx} {E : L2.St → XK} {c : Expr} {fc : Sig → AH → Res Bool}
theorem dts_nil : DTs X E [] dYes := ⟨fun pins s σ H Q I ⟨as, δ, S, sr, er, w⟩ => pts_nil.run pins s σ H Q I (WR.pure (b := true) w sr rfl)⟩
theorem dts_one (h : DT X E c fc) : DTs X E [c] fc := pts_one h
end
/-- exceptions never come -/
theorem WF.nox {M : Wd} {E0 E1 : XK} {as : As} {H : Hp} {α β : Type} {R : As → Hp → β → α → Prop} {r : Res α} {k : α → AH → Res (List PV)} {Q : VK} {Q' : β → Hp → Prop} (w : WF M E0 as H (r.nox.bind k) Q)
    (h : ∀ a S, r = .ok a S → WF M E0 as H (k a S) Q → ∀ as' H' b, Ext as H as' H' → SR M as' H' S → R as' H' b a → Q' b H') : ∀ {as2 H2}, as2 = as → H2 = H → WR M E1 R as2 H2 r Q' := by
  rintro _ _ rfl rfl
  cases r with
  | ok a S => exact fun as' H' b e s q => h a S rfl w as' H' b e s q
  | exc c p S => exact w.elim
  | bad => exact w.elim
theorem nox_cases {α β : Type} {r : Res α} {k : α → AH → Res β} (P : Res β → Prop) (hb : P .bad → False) (w : P (r.nox.bind k)) : ∃ a S, r = .ok a S ∧ P (k a S) := by
  cases r with
  | ok a S => exact ⟨a, S, rfl, w⟩
  | exc c p S => exact (hb w).elim
  | bad => exact (hb w).elim
theorem wipe_idem : ∀ (vs : List Nat) (σ : L2.St), L2.wipe (L2.wipe σ vs) vs = L2.wipe σ vs
  | [], _ => rfl
  | v :: vs, σ => by
    show (L2.wipe ((L2.wipe σ vs).set v none) vs).set v none = (L2.wipe σ vs).set v none
    have go : ∀ (us : List Nat) (τ : L2.St), (L2.wipe (τ.set v none) us).set v none = (L2.wipe τ us).set v none := by
      intro us
      induction us with
      | nil => intro τ; show (τ.set v none).set v none = τ.set v none; rw [List.set_set]
      | cons k us ih =>
        intro τ
        show ((L2.wipe (τ.set v none) us).set k none).set v none = ((L2.wipe τ us).set k none).set v none
        by_cases e : k = v
        · subst e; rw [List.set_set, List.set_set]; exact ih τ
        · rw [List.set_comm _ _ e, ih τ, List.set_comm _ _ (Ne.symm e)]
    rw [go vs (L2.wipe σ vs), wipe_idem vs σ]
theorem bind_assoc' {α β γ : Type} (r : Res α) (k : α → AH → Res β) (l : β → AH → Res γ) : (r.bind k).bind l = r.bind fun a S => (k a S).bind l := by cases r <;> rfl
section
variable {X : Cx} {E : L2.St → XK} {elt tg iter : Expr} {ifs : List Expr} {scope : Scope} {own : List (Str × Nat)} {pos : Pos} {fi : Sig → AH → Res Its'} {q : Pat} {fc : Sig → AH → Res Bool} {fe : Sig → AH → Res DV}
theorem lc_t {σ : L2.St} {H : Hp} {Q : VK} {as : As} {δ : Sig} {S : AH} {vs : List Nat} (hq : ∀ i ∈ q.slots, i ∈ vs) (sr : SR (wd X) as H S) (er : ER (wd X) as H σ δ) (w : WF (wd X) (E σ) as H (dLc fi q fc fe vs δ S) Q) :
    tLc (tI (wd X) E fi) (tPat X.K q) (tDT (wd X) EN fc) (tD (wd X) EN fe) vs σ H Q := by
  refine ⟨as, δ, S, sr, er, (WF.bind w).mono fun _ _ _ H1 J _ _ _ _ ⟨as1, S1, x, _, e1, s1, y1, w1⟩ => ?_⟩
  obtain ⟨xs, ck⟩ := x
  intro D nD
  have er1 := er.mono e1.w
  have nh : ¬ as1.hid D := (s1.fresh nD).2
  dsimp only at w1 y1
  have hz : xs.length ≤ 16777216 := by
    refine Classical.byContradiction fun n => ?_
    rw [if_neg n] at w1
    exact w1
  rw [if_pos hz] at w1
  refine ⟨fun i m H => m = xs.length - i ∧ i ≤ xs.length ∧ ∃ (asm : As) (Sm : AH) (accV : List V) (accP : List PV), H D = some (.lst accV) ∧ accV.length ≤ i ∧ Ext as1 H1 asm (del H D) ∧ SR (wd X) asm (del H D) Sm ∧ PRs (wd X) asm (del H D) accV accP ∧
      WF (wd X) (E σ) asm (del H D) ((lcGo ck q fc fe (wipeD δ vs) (xs.drop i) Sm).bind fun ys S => .ok (accP ++ ys) S) Q, ⟨xs.length, rfl, Nat.zero_le _, as1, S1, [], [], upd_same, Nat.zero_le _, ?_⟩, ?_⟩
  · rw [del_upd nD]
    refine ⟨Ext.refl _ _, s1, .nil, ?_⟩
    rw [List.drop_zero]
    have e : ((lcGo ck q fc fe (wipeD δ vs) xs S1).bind fun ys S => Res.ok ([] ++ ys) S) = lcGo ck q fc fe (wipeD δ vs) xs S1 := by
      cases lcGo ck q fc fe (wipeD δ vs) xs S1 <;> rfl
    rw [e]
    exact w1
  · rintro i m H2 ⟨rfl, hi, asm, Sm, accV, accP, hD, hlen, em, sm, tm, wm⟩
    have eH : upd (del H2 D) D (.lst accV) = H2 := upd_del hD
    have nm : del H2 D D = none := del_same _ _
    have nhm : ¬ asm.hid D := by rw [em.hids]; exact nh
    have sh : SR (wd X) (asm.hide D) H2 Sm := by have := sm.hide (o := .lst accV) nm; rw [eH] at this; exact this
    have xw : Exw as1 H1 (asm.hide D) H2 := by have := em.w.hide (o := .lst accV) nD; rw [eH] at this; exact this
    by_cases hlt : i < xs.length
    · have hx : xs[i]? = some xs[i] := List.getElem?_eq_getElem hlt
      have hd : xs.drop i = xs[i] :: xs.drop (i + 1) := List.drop_eq_getElem_cons hlt
      rw [hd] at wm
      unfold lcGo at wm
      have hck : ck Sm := by
        refine Classical.byContradiction fun n => ?_
        rw [if_neg n] at wm
        exact wm
      rw [if_pos hck] at wm
      refine .inr ⟨y1.go _ _ _ xw sh hck i hlt, fun H' => (i + 1 ≤ xs.length ∧ ∃ (asm : As) (Sm : AH) (accV : List V) (accP : List PV), H' D = some (.lst accV) ∧ accV.length ≤ i + 1 ∧ Ext as1 H1 asm (del H' D) ∧ SR (wd X) asm (del H' D) Sm ∧ PRs (wd X) asm (del H' D) accV accP ∧
        WF (wd X) (E σ) asm (del H' D) ((lcGo ck q fc fe (wipeD δ vs) (xs.drop (i + 1)) Sm).bind fun ys S => .ok (accP ++ ys) S) Q), fun H' n => ⟨xs.length - (i + 1), by omega, rfl, n.1, n.2⟩, fun v H' yv => ?_⟩
      obtain ⟨e3, s3, r3⟩ := y1.yld _ _ _ xw sh hck i _ v H' hx yv
      cases eq : q.set xs[i] (wipeD δ vs) with
      | none => rw [eq] at wm; exact wm.elim
      | some δ2 =>
        rw [eq] at wm
        dsimp only at wm
        rw [bind_assoc'] at wm
        have erh : ER (wd X) (asm.hide D) H' (L2.wipe σ vs) (wipeD δ vs) := ((er1.mono xw).wipe vs).mono e3.w
        refine tPat_ok (M := wd X) q erh r3 eq fun σ2 er2 wi2 => ⟨by rw [wi2 vs hq, wipe_idem], ?_⟩
        obtain ⟨b, Sb, eb, wb⟩ := nox_cases (fun r => WF (wd X) (E σ) asm (del H2 D) r Q) (fun z => z) wm
        refine ⟨asm.hide D, δ2, Sm, s3, er2, ?_⟩
        rw [eb]
        intro as4 H4 b4 e4 s4 q4
        cases q4
        have ec : Ext (asm.hide D) (upd (del H2 D) D (.lst accV)) as4 H4 := by rw [eH]; exact e3.trans e4
        cases b with
        | false =>
          rw [if_neg Bool.false_ne_true] at wb ⊢
          obtain ⟨u1, u2, u3⟩ := Ext.unhide nm nhm ec
          rw [u2] at s4
          exact ⟨hlt, ⟨as4.cells, asm.hid⟩, Sb, accV, accP, u3, by omega, em.trans u1, s4.unhide nhm ⟨_, u3⟩, tm.mono u1.w, WF.later u1 wb⟩
        | true =>
          rw [if_pos rfl] at wb ⊢
          rw [bind_assoc'] at wb
          obtain ⟨d, Sd, ed, wd'⟩ := nox_cases (fun r => WF (wd X) (E σ) asm (del H2 D) r Q) (fun z => z) wb
          refine ⟨as4, δ2, Sb, s4, er2.mono e4.w, ?_⟩
          rw [ed]
          intro as5 H5 y e5 s5 r5
          have ec5 : Ext (asm.hide D) (upd (del H2 D) D (.lst accV)) as5 H5 := ec.trans e5
          obtain ⟨u1, u2, u3⟩ := Ext.unhide nm nhm ec5
          rw [u2] at s5 r5
          cases d with
          | c n => exact wd'.elim
          | p yv =>
            refine ⟨accV, u3, ?_, hlt, ⟨as5.cells, asm.hid⟩, Sd, accV ++ [y], accP ++ [yv], upd_same, by rw [List.length_append, List.length_singleton]; omega, ?_⟩
            · have hs : sizeLine = 16777216 := by decide
              omega
            rw [del_updu]
            refine ⟨em.trans u1, s5.unhide nhm ⟨_, u3⟩, (tm.mono u1.w).append (.cons (PR.unhide r5) .nil), ?_⟩
            have e : ((lcGo ck q fc fe (wipeD δ vs) (xs.drop (i + 1)) Sd).bind fun ys S => Res.ok (accP ++ [yv] ++ ys) S) = ((lcGo ck q fc fe (wipeD δ vs) (xs.drop (i + 1)) Sd).bind fun ys S => Res.ok (yv :: ys) S).bind fun ys S => Res.ok (accP ++ ys) S := by
              cases lcGo ck q fc fe (wipeD δ vs) (xs.drop (i + 1)) Sd <;> simp [Res.bind]
            rw [e]
            exact WF.later u1 wd'
    · have hi' : i = xs.length := by omega
      subst hi'
      rw [List.drop_length] at wm
      unfold lcGo at wm
      have hck : ck Sm := by
        refine Classical.byContradiction fun n => ?_
        rw [if_neg n] at wm
        exact wm
      rw [if_pos hck] at wm
      refine .inl ⟨y1.stop _ _ _ xw sh hck, ?_⟩
      have wq : WF (wd X) (E σ) asm (del H2 D) (Res.ok (accP ++ []) Sm) Q := wm
      rw [List.append_nil] at wq
      have := wq.here sm (by have hs : sizeLine = 16777216 := by decide
                             omega) tm nm
      rw [eH] at this
      exact this
theorem fe_lc (g : Gd X E) (hN : X.N.Nodup) (hi : DI X E tg iter fi) (ok : BlkOk X.N X.env.scope scope own)
    (hg : ∀ (s : Shared) (H : Hp) (C : Addr) (cl : List (Str × Addr)) (fp : List Addr), DG (X.blk s H scope (compEnvC scope cl C X.env) fp) tg q) (ht : ∀ (s : Shared) (H : Hp) (C : Addr) (cl : List (Str × Addr)) (fp : List Addr), DTs (X.blk s H scope (compEnvC scope cl C X.env) fp) EN ifs fc)
    (he : ∀ (s : Shared) (H : Hp) (C : Addr) (cl : List (Str × Addr)) (fp : List Addr), DE (X.blk s H scope (compEnvC scope cl C X.env) fp) EN elt fe) (hq : ∀ i ∈ q.slots, i ∈ own.map (·.2)) (hs : ∀ x, foldedSetIterable iter X.env x = pure x := by intro _; rfl) :
    FE X E (.ListComp elt [⟨tg, iter, ifs, 0⟩] scope pos) (dLc fi q fc fe (own.map (·.2))) :=
  L2.PE.imp (pe_lc g.calm hN hi ok hg ht he hs) fun σ H Q ⟨as, δ, S, sr, er, w⟩ => lc_t hq sr er w
end
end
end DL
namespace DL
noncomputable section
open PySem PySem.Spec PyProof.Rows L2

/-! ### statements -/
def WS (M : Wd) (E : L2.St → XK) (D : Ends) (as : As) (H : Hp) (o : Out) : Prop := match o with
  | .nx δ' S' => ∀ as' H' σ', Ext as H as' H' → SR M as' H' S' → ER M as' H' σ' δ' → D.nx σ' H'
  | .rt d S' => ∀ as' H' v, Ext as H as' H' → SR M as' H' S' → DVR M as' H' v d → D.rt v H'
  | .rtT ds S' => ∀ as' H' v, Ext as H as' H' → SR M as' H' S' → (∃ a vs, v = .ref a ∧ RdT M.K as' H' a vs ∧ DVRs M as' H' vs ds) → D.rt v H'
  | .bk δ' S' => ∀ as' H' σ', Ext as H as' H' → SR M as' H' S' → ER M as' H' σ' δ' → D.bk σ' H'
  | .ct δ' S' => ∀ as' H' σ', Ext as H as' H' → SR M as' H' S' → ER M as' H' σ' δ' → D.ct σ' H'
  | .exc c p δ' S' => ∀ as' H' σ' cls dd, Ext as H as' H' → SR M as' H' S' → ER M as' H' σ' δ' → ExR M as' H' c p cls dd → E σ' cls dd H'
  | .bad => False
def tS (M : Wd) (E : L2.St → XK) (f : Sig → AH → Out) : TS := fun D σ H => ∃ as δ S, SR M as H S ∧ ER M as H σ δ ∧ WS M E D as H (f δ S)
abbrev DS (X : Cx) (E : L2.St → XK) (st : Stmt) (f : Sig → AH → Out) : Prop := PS X st (tS (wd X) E f)
abbrev DSs (X : Cx) (E : L2.St → XK) (st : List Stmt) (f : Sig → AH → Out) : Prop := PSs X st (tS (wd X) E f)
theorem _root_.L2.PS.imp {X : Cx} {e : Stmt} {t t' : TS} (h : PS X e t) (i : ∀ D σ H, t' D σ H → t D σ H) : PS X e t' := ⟨fun pins s σ H D I q => h.run pins s σ H D I (i D σ H q)⟩
theorem _root_.L2.PSs.imp {X : Cx} {e : List Stmt} {t t' : TS} (h : PSs X e t) (i : ∀ D σ H, t' D σ H → t D σ H) : PSs X e t' := ⟨fun pins s σ H D I q => h.run pins s σ H D I (i D σ H q)⟩
def _root_.DL.Res.out {α : Type} (r : Res α) (δ : Sig) (k : α → AH → Out) : Out := match r with
  | .ok a S => k a S
  | .exc c p S => .exc c p δ S
  | .bad => .bad
@[simp] theorem out_ok {α : Type} (a : α) (S : AH) (δ : Sig) (k : α → AH → Out) : (Res.ok a S).out δ k = k a S := rfl
@[simp] theorem out_exc {α : Type} (c : Str) (p : List (Str × PV)) (S : AH) (δ : Sig) (k : α → AH → Out) : (Res.exc c p S : Res α).out δ k = .exc c p δ S := rfl
@[simp] theorem out_bad {α : Type} (δ : Sig) (k : α → AH → Out) : (Res.bad : Res α).out δ k = .bad := rfl
section
variable {M : Wd} {E : L2.St → XK} {D : Ends} {as as' : As} {H H' : Hp} {σ : L2.St} {δ : Sig} {α β : Type} {R : As → Hp → β → α → Prop}
theorem WS.later {o : Out} (x : Ext as H as' H') (w : WS M E D as H o) : WS M E D as' H' o := by
  cases o with
  | nx δ S => exact fun as2 H2 σ e => w as2 H2 σ (x.trans e)
  | rt d S => exact fun as2 H2 σ e => w as2 H2 σ (x.trans e)
  | rtT d S => exact fun as2 H2 σ e => w as2 H2 σ (x.trans e)
  | bk δ S => exact fun as2 H2 σ e => w as2 H2 σ (x.trans e)
  | ct δ S => exact fun as2 H2 σ e => w as2 H2 σ (x.trans e)
  | exc c p δ S => exact fun as2 H2 σ cls dd e => w as2 H2 σ cls dd (x.trans e)
  | bad => exact w
theorem WS.bind {r : Res α} {k : α → AH → Out} (w : WS M E D as H (r.out δ k)) (er : ER M as H σ δ) :
    WR M (E σ) R as H r (fun b H1 => ∃ as1 S1 a, r = .ok a S1 ∧ Ext as H as1 H1 ∧ SR M as1 H1 S1 ∧ R as1 H1 b a ∧ WS M E D as1 H1 (k a S1)) := by
  cases r with
  | ok a S => exact fun as2 H2 b e s q => ⟨as2, S, a, rfl, e, s, q, WS.later e w⟩
  | exc c p S => exact fun as2 H2 cls dd e s q => w as2 H2 σ cls dd e s (er.mono e.w) q
  | bad => exact w
theorem WS.here {S : AH} (w : WS M E D as H (.nx δ S)) (s : SR M as H S) (r : ER M as H σ δ) : D.nx σ H := w as H σ (Ext.refl _ _) s r
theorem WS.ret {d : DV} {S : AH} {v : V} (w : WS M E D as H (.rt d S)) (s : SR M as H S) (r : DVR M as H v d) : D.rt v H := w as H v (Ext.refl _ _) s r
end
def dPass : Sig → AH → Out := fun δ S => .nx δ S
def dBreak : Sig → AH → Out := fun δ S => .bk δ S
def dCont : Sig → AH → Out := fun δ S => .ct δ S
def dNever : Sig → AH → Out := fun _ _ => .bad
def dSeq (f g : Sig → AH → Out) : Sig → AH → Out := fun δ S => match f δ S with
  | .nx δ' S' => g δ' S'
  | o => o
def dDrop (f : Sig → AH → Res DV) : Sig → AH → Out := fun δ S => (f δ S).out δ fun _ S => .nx δ S
def dRet (f : Sig → AH → Res DV) : Sig → AH → Out := fun δ S => (f δ S).out δ fun d S => .rt d S
/-- a tuple that is given back, with cells in it -/
def dRetT (fs : Sig → AH → Res (List DV)) : Sig → AH → Out := fun δ S => (fs δ S).out δ fun ds S => if ds.length ≤ 1000 then .rtT ds S else .bad
def dRetN : Sig → AH → Out := fun _ S => .rt (.p .non) S
def dSet (i : Nat) (f : Sig → AH → Res DV) : Sig → AH → Out := fun δ S => (f δ S).out δ fun d S => .nx (δ.set i (some d)) S
def dAsg (q : Pat) (f : Sig → AH → Res DV) : Sig → AH → Out := fun δ S => (f δ S).out δ fun d S => match d with
  | .p x => match q.set (.p x) δ with
    | some δ' => .nx δ' S
    | none => .bad
  | .c _ => .bad
def dIf (c : Sig → AH → Res Bool) (f g : Sig → AH → Out) : Sig → AH → Out := fun δ S => (c δ S).out δ fun b S => if b = true then f δ S else g δ S
section
variable {X : Cx} {E : L2.St → XK} {st : Stmt} {rest sts sts2 : List Stmt} {e : Expr} {pos : Pos} {f g : Sig → AH → Out} {fe : Sig → AH → Res DV} {fc : Sig → AH → Res Bool} {q : Pat}
theorem dss_nil : DSs X E [] dPass := pss_nil.imp fun D σ H ⟨as, δ, S, sr, er, w⟩ => w.here sr er
theorem dss_cons (h1 : DS X E st f) (h2 : DSs X E rest g) : DSs X E (st :: rest) (dSeq f g) := (pss_cons h1 h2).imp fun D σ H ⟨as, δ, S, sr, er, w⟩ => by
  refine ⟨as, δ, S, sr, er, ?_⟩
  unfold dSeq at w
  split at w
  · rename_i δ1 S1 eq
    rw [eq]
    exact fun as' H' σ' x s r => ⟨as', δ1, S1, s, r, WS.later x w⟩
  · rename_i n
    cases eq : f δ S with
    | nx δ1 S1 => exact absurd eq (n _ _)
    | rt d S1 => rw [eq] at w; exact w
    | rtT d S1 => rw [eq] at w; exact w
    | bk δ1 S1 => rw [eq] at w; exact w
    | ct δ1 S1 => rw [eq] at w; exact w
    | exc c p δ1 S1 => rw [eq] at w; exact w
    | bad => rw [eq] at w; exact w
theorem dss_one (h1 : DS X E st f) : DSs X E [st] f := pss_one h1
theorem ds_pass : DS X E (.Pass pos) dPass := ps_pass.imp fun D σ H ⟨as, δ, S, sr, er, w⟩ => w.here sr er
theorem ds_break : DS X E (.Break pos) dBreak := ps_break.imp fun D σ H ⟨as, δ, S, sr, er, w⟩ => w as H σ (Ext.refl _ _) sr er
theorem ds_cont : DS X E (.Continue pos) dCont := ps_continue.imp fun D σ H ⟨as, δ, S, sr, er, w⟩ => w as H σ (Ext.refl _ _) sr er
theorem ds_never : DS X E st dNever := ps_never.imp fun D σ H ⟨as, δ, S, sr, er, w⟩ => w.elim
theorem dss_never : DSs X E sts dNever := pss_never.imp fun D σ H ⟨as, δ, S, sr, er, w⟩ => w.elim
theorem ds_expr (he : DE X E e fe) (hs : swapsWith e none pos.line X.env = pure false := by rfl) : DS X E (.Expr e pos) (dDrop fe) := (ps_expr he hs).imp fun D σ H ⟨as, δ, S, sr, er, w⟩ =>
  ⟨as, δ, S, sr, er, (w.bind er).mono fun _ _ _ _ _ _ _ _ _ ⟨as1, S1, d1, _, x1, s1, r1, w1⟩ => w1.here s1 (er.mono x1.w)⟩
theorem ds_ret (he : DE X E e fe) : DS X E (.Return (some e) pos) (dRet fe) := (ps_ret he).imp fun D σ H ⟨as, δ, S, sr, er, w⟩ =>
  ⟨as, δ, S, sr, er, (w.bind er).mono fun _ _ _ _ _ _ _ _ _ ⟨as1, S1, d1, _, x1, s1, r1, w1⟩ => w1.ret s1 r1⟩
theorem ds_retT {es : List Expr} {k} {pos' : Pos} {fs : Sig → AH → Res (List DV)} (ha : DA X E es fs) : DS X E (.Return (some (.Tuple es k pos')) pos) (dRetT fs) := (ps_ret (pe_tupZ ha)).imp fun D σ H ⟨as, δ, S, sr, er, w⟩ =>
  ⟨as, δ, S, sr, er, (w.bind er).mono fun _ _ _ _ vs _ _ _ _ ⟨as1, S1, ds, _, x1, s1, r1, w1⟩ => by
    split at w1
    · rename_i z
      have z2 : vs.length ≤ sizeLine := by rw [Paired.length r1]; exact le1000 z
      exact ⟨z2, fun p o n d => w1 as1 _ _ (ext_new s1 n) (s1.new n) ⟨p, vs, rfl, ⟨z2, .inl ⟨⟨o, d, upd_same⟩, s1.fresh n⟩⟩, DVRs.mono (ext_new s1 n).w r1⟩⟩
    · exact w1.elim⟩
theorem ds_retN : DS X E (.Return none pos) dRetN := ps_retN.imp fun D σ H ⟨as, δ, S, sr, er, w⟩ => w.ret sr .non
theorem ds_set {i : Nat} {x : Str} {pos' : Pos} (hN : X.N.Nodup) (hi : X.N[i]? = some x) (hx : Loc X.env.scope x) (he : DE X E e fe) (hs : swapsWith e (some (.Name x pos')) pos.line X.env = pure false := by rfl) (hf : X.fn x = true ∨ X.env.scope.names.lookup x = some .local := by first | exact .inl rfl | exact .inr rfl | assumption) :
    DS X E (.Assign [.Name x pos'] e pos) (dSet i fe) := (ps_set hN hi hx he hs hf).imp fun D σ H ⟨as, δ, S, sr, er, w⟩ =>
  ⟨as, δ, S, sr, er, (w.bind er).mono fun _ _ _ _ _ _ _ _ _ ⟨as1, S1, d1, _, x1, s1, r1, w1⟩ => w1.here s1 ((er.mono x1.w).set r1 i)⟩
theorem ds_asg {tg : Expr} (he : DE X E e fe) (hg : DG X tg q) (hs : swapsWithSole [tg] e pos.line X.env = pure false := by rfl) (hw : swappedStores [tg] e X.env = pure none := by rfl)
    (h1 : (assignEach [tg] X.env).map (·.2) = [assign tg X.env] := by rfl) : DS X E (.Assign [tg] e pos) (dAsg q fe) := (ps_asg he hg hs hw h1).imp fun D σ H ⟨as, δ, S, sr, er, w⟩ =>
  ⟨as, δ, S, sr, er, (w.bind er).mono fun _ _ _ _ _ _ _ _ _ ⟨as1, S1, d1, _, x1, s1, r1, w1⟩ => by
    split at w1
    · split at w1
      · rename_i δ' eq
        exact tPat_ok (M := wd X) q (er.mono x1.w) r1 eq fun σ' er' _ => w1.here s1 er'
      · exact w1.elim
    · exact w1.elim⟩
theorem ds_if {c : Expr} (hc : DT X E c fc) (ha : DSs X E sts f) (hb : DSs X E sts2 g) : DS X E (.If c sts sts2 pos) (dIf fc f g) := (ps_if hc ha hb).imp fun D σ H ⟨as, δ, S, sr, er, w⟩ =>
  ⟨as, δ, S, sr, er, (w.bind er).mono fun _ _ _ _ k _ _ _ _ ⟨as1, S1, d1, _, x1, s1, r1, w1⟩ => by
    cases r1
    cases k with
    | true => exact ⟨as1, δ, S1, s1, er.mono x1.w, w1⟩
    | false => exact ⟨as1, δ, S1, s1, er.mono x1.w, w1⟩⟩
end

/-! ### name = [..] -/
def dSetF (i : Nat) (f : Sig → AH → Res (List PV)) : Sig → AH → Out := dSet i (dVal f)
def dSetC (i : Nat) (f : Sig → AH → Res (List PV)) : Sig → AH → Out := dSet i (dCell f)
section
variable {X : Cx} {E : L2.St → XK} {elt tg iter : Expr} {ifs : List Expr} {scope : Scope} {own : List (Str × Nat)} {pos spos py : Pos} {fi : Sig → AH → Res Its'} {q : Pat} {fc : Sig → AH → Res Bool} {fe : Sig → AH → Res DV} {i : Nat} {y : Str}
theorem ds_setLcV (g : Gd X E) (hN : X.N.Nodup) (hy : X.N[i]? = some y) (hyl : X.env.scope.names.lookup y = some .local)
    (hsw : swapsWith (.ListComp elt [⟨tg, iter, ifs, 0⟩] scope pos) (some (.Name y py)) spos.line X.env = pure true) (hi : DI X E tg iter fi) (ok : BlkOk X.N X.env.scope scope own)
    (hg : ∀ (s : Shared) (H : Hp) (C : Addr) (cl : List (Str × Addr)) (fp : List Addr), DG (X.blk s H scope (compEnvC scope cl C X.env) fp) tg q) (ht : ∀ (s : Shared) (H : Hp) (C : Addr) (cl : List (Str × Addr)) (fp : List Addr), DTs (X.blk s H scope (compEnvC scope cl C X.env) fp) EN ifs fc)
    (he : ∀ (s : Shared) (H : Hp) (C : Addr) (cl : List (Str × Addr)) (fp : List Addr), DE (X.blk s H scope (compEnvC scope cl C X.env) fp) EN elt fe) (hq : ∀ i ∈ q.slots, i ∈ own.map (·.2)) (hs : ∀ x, foldedSetIterable iter X.env x = pure x := by intro _; rfl) :
    DS X E (.Assign [.Name y py] (.ListComp elt [⟨tg, iter, ifs, 0⟩] scope pos) spos) (dSetF i (dLc fi q fc fe (own.map (·.2)))) :=
  (ps_setLc g.calm hN hy hyl hsw hi ok hg ht he hs).imp fun D σ H ⟨as, δ, S, sr, er, w⟩ => lc_t hq sr er (WF.val ((w.bind er).mono fun _ _ _ _ v _ _ _ _ ⟨as1, S1, d1, _, x1, s1, r1, w1⟩ => w1.here s1 ((er.mono x1.w).set r1 i)))
theorem ds_setLcC (g : Gd X E) (hN : X.N.Nodup) (hy : X.N[i]? = some y) (hyl : X.env.scope.names.lookup y = some .local)
    (hsw : swapsWith (.ListComp elt [⟨tg, iter, ifs, 0⟩] scope pos) (some (.Name y py)) spos.line X.env = pure true) (hi : DI X E tg iter fi) (ok : BlkOk X.N X.env.scope scope own)
    (hg : ∀ (s : Shared) (H : Hp) (C : Addr) (cl : List (Str × Addr)) (fp : List Addr), DG (X.blk s H scope (compEnvC scope cl C X.env) fp) tg q) (ht : ∀ (s : Shared) (H : Hp) (C : Addr) (cl : List (Str × Addr)) (fp : List Addr), DTs (X.blk s H scope (compEnvC scope cl C X.env) fp) EN ifs fc)
    (he : ∀ (s : Shared) (H : Hp) (C : Addr) (cl : List (Str × Addr)) (fp : List Addr), DE (X.blk s H scope (compEnvC scope cl C X.env) fp) EN elt fe) (hq : ∀ i ∈ q.slots, i ∈ own.map (·.2)) (hs : ∀ x, foldedSetIterable iter X.env x = pure x := by intro _; rfl) :
    DS X E (.Assign [.Name y py] (.ListComp elt [⟨tg, iter, ifs, 0⟩] scope pos) spos) (dSetC i (dLc fi q fc fe (own.map (·.2)))) :=
  (ps_setLc g.calm hN hy hyl hsw hi ok hg ht he hs).imp fun D σ H ⟨as, δ, S, sr, er, w⟩ => lc_t hq sr er (WF.cell ((w.bind er).mono fun _ _ _ _ v _ _ _ _ ⟨as1, S1, d1, _, x1, s1, r1, w1⟩ => w1.here s1 ((er.mono x1.w).set r1 i)))
end

/-! ### a, b = x, y -/
def dPar (i j : Nat) (fs : Sig → AH → Res (List DV)) : Sig → AH → Out := fun δ S => (fs δ S).out δ fun ds S => match ds with
  | [d, e] => .nx ((δ.set i (some d)).set j (some e)) S
  | _ => .bad
def dPar3 (i j l : Nat) (fs : Sig → AH → Res (List DV)) : Sig → AH → Out := fun δ S => (fs δ S).out δ fun ds S => match ds with
  | [d, e, f] => .nx (((δ.set i (some d)).set j (some e)).set l (some f)) S
  | _ => .bad
section
variable {X : Cx} {E : L2.St → XK} {a b c : Expr} {px py pz pt pos : Pos} {kt k2 : Nat} {pt2 : Pos} {i j l : Nat} {x y z : Str} {fs : Sig → AH → Res (List DV)}
theorem ds_par (hc : X.calm = true) (hN : X.N.Nodup) (hi : X.N[i]? = some x) (hj : X.N[j]? = some y) (hij : i ≠ j)
    (hx : X.env.scope.names.lookup x = some .local) (hy : X.env.scope.names.lookup y = some .local) (ha : DA X E [a, b] fs)
    (hw : swappedStores [.Tuple [.Name x px, .Name y py] kt pt] (.Tuple [a, b] k2 pt2) X.env = pure (some [x, y]))
    (hs : swapsWithSole [.Tuple [.Name x px, .Name y py] kt pt] (.Tuple [a, b] k2 pt2) pos.line X.env = pure false := by rfl) :
    DS X E (.Assign [.Tuple [.Name x px, .Name y py] kt pt] (.Tuple [a, b] k2 pt2) pos) (dPar i j fs) := (ps_par hc hN hi hj hij hx hy ha hw hs).imp fun D σ H ⟨as, δ, S, sr, er, w⟩ =>
  ⟨as, δ, S, sr, er, (w.bind er).mono fun _ _ _ _ _ _ _ _ _ ⟨as1, S1, d1, _, x1, s1, r1, w1⟩ => by
    split at w1
    · obtain ⟨v, v2, rfl, r, r'⟩ := DVRs.two r1
      exact ⟨_, _, rfl, w1.here s1 (((er.mono x1.w).set r i).set r' j)⟩
    · exact w1.elim⟩
end

/-! ### stores -/
/-- o[i] = v -/
def setIx (o i v : DV) (S : AH) : Option AH := match o, i, v with
  | .c n, .p (.int k), .p x => match S[n]? with
    | some (.lst xs) => (ixN xs.length k).map fun j => S.set n (.lst (xs.set j x))
    | _ => none
  | .c n, .p (.int k), .c m => match S[n]? with
    | some (.nst ks) => (ixN ks.length k).map fun j => S.set n (.nst (ks.set j m))
    | _ => none
  | _, _, _ => none
def rSetD (M : Wd) : V → V → V → Hp → (Hp → Prop) → Prop := fun o i v H Q => ∃ as S a b c, SR M as H S ∧ DVR M as H o a ∧ DVR M as H i b ∧ DVR M as H v c ∧ ∃ S', setIx a b c S = some S' ∧ ∀ as' H', Ext as H as' H' → SR M as' H' S' → Q H'
theorem ow_setIx {X : Cx} : PSet X (rSetD (wd X)) := by
  intro pins s σ H o i v ov iv u Q I ro ri rv h
  obtain ⟨as, S, a, b, c, sr, r1, r2, r3, S', e, q⟩ := h
  unfold setIx at e
  split at e
  · obtain ⟨ad, ea, rfl⟩ := r1
    cases r2
    split at e
    · rename_i xs e2
      simp only [Option.map_eq_some_iff] at e
      obtain ⟨j, ej, rfl⟩ := e
      obtain ⟨b2, vs, eb, z, hb, t⟩ := sr.at e2
      rw [ea] at eb; cases eb
      rw [← t.length] at ej
      exact set_list pins s σ H _ _ v ov iv u Q I ro ri rv ⟨_, _, _, j, rfl, rfl, hb, ej, q _ _ (ext_write sr ea hb) (sr.write ea hb (by rw [List.length_set]; exact z) (t.set r3 j))⟩
    · cases e
  · obtain ⟨ad, ea, rfl⟩ := r1
    cases r2
    split at e
    · rename_i ks e2
      simp only [Option.map_eq_some_iff] at e
      obtain ⟨j, ej, rfl⟩ := e
      obtain ⟨b2, vs, eb, z, hb, t⟩ := sr.atN e2
      rw [ea] at eb; cases eb
      rw [← t.length] at ej
      exact set_list pins s σ H _ _ v ov iv u Q I ro ri rv ⟨_, _, _, j, rfl, rfl, hb, ej, q _ _ (ext_write sr ea hb) (sr.writeNest ea hb (by rw [List.length_set]; exact z) (t.set r3 j))⟩
    · cases e
  · cases e
def dSub (fe fo fi : Sig → AH → Res DV) : Sig → AH → Out := fun δ S => (fe δ S).out δ fun v S => (fo δ S).out δ fun o S => (fi δ S).out δ fun i S => match setIx o i v S with
  | some S' => .nx δ S'
  | none => .bad
section
variable {X : Cx} {E : L2.St → XK} {o i e : Expr} {pos tpos : Pos} {fe fo fi : Sig → AH → Res DV}
theorem ds_sub (he : DE X E e fe) (ho : DE X E o fo) (hi : DE X E i fi)
    (hs : swapsWithSole [.Subscript o i tpos] e pos.line X.env = pure false := by rfl) (hw : swappedStores [.Subscript o i tpos] e X.env = pure none := by rfl)
    (h1 : (assignEach [.Subscript o i tpos] X.env).map (·.2) = [assign (.Subscript o i tpos) X.env] := by rfl)
    (ha : ∀ v, assign (.Subscript o i tpos) X.env v = (do
      let ov ← holding [v] (eval o X.env)
      let iv ← holding [v, ov] (eval i X.env)
      standAt tpos
      holding [v, ov, iv] (setItem ov iv v)
      release [v, ov, iv] []) := by intro _; rfl) : DS X E (.Assign [.Subscript o i tpos] e pos) (dSub fe fo fi) :=
  (ps_asg he (pg_sub ho hi ow_setIx ha) hs hw h1).imp fun D σ H ⟨as, δ, S, sr, er, w⟩ =>
  ⟨as, δ, S, sr, er, (w.bind er).mono fun _ _ _ _ _ _ _ _ _ ⟨as1, S1, d1, _, x1, s1, r1, w1⟩ => ⟨as1, δ, S1, s1, er.mono x1.w, (w1.bind (er.mono x1.w)).mono fun _ _ _ _ _ _ _ _ _ ⟨as2, S2, d2, _, x2, s2, r2, w2⟩ =>
    ⟨as2, δ, S2, s2, (er.mono x1.w).mono x2.w, (w2.bind ((er.mono x1.w).mono x2.w)).mono fun _ _ _ _ _ _ _ _ _ ⟨as3, S3, d3, _, x3, s3, r3, w3⟩ => by
      split at w3
      · rename_i S' eq
        exact ⟨as3, S3, d2, d3, d1, s3, r2.mono x3.w, r3, (r1.mono x2.w).mono x3.w, S', eq, fun as' H' x s => w3 as' H' σ x s ((((er.mono x1.w).mono x2.w).mono x3.w).mono x.w)⟩
      · exact w3.elim⟩⟩⟩
end

/-! ### name op= e -/
def dAug (i : Nat) (o : Op2) (fe : Sig → AH → Res DV) : Sig → AH → Out := fun δ S => match δ[i]? with
  | some (some a) => (fe δ S).out δ fun b S => (lift (o a b S)).out δ fun d S => .nx (δ.set i (some d)) S
  | _ => .bad
def rIpD (M : Wd) (o : Op2) : TIp := fun x y H Q => ∃ as S d1 d2, SR M as H S ∧ DVR M as H x d1 ∧ DVR M as H y d2 ∧ WO M as H (o d1 d2 S) Q
def intO2 (f : Int → Int → Int) : Op2 := fun a b S => match a, b with
  | .p (.int i), .p (.int j) => some (.p (.int (f i j)), S)
  | _, _ => none
theorem ow_ip {X : Cx} {op : Operator} {f : Int → Int → Int} (h0 : PIp X op (ipI f)) : PIp X op (rIpD (wd X) (intO2 f)) := by
  intro pins s σ H x y v u Q I rx ry h
  obtain ⟨as, S, d1, d2, sr, r1, r2, w⟩ := h
  unfold intO2 at w
  split at w
  · cases r1; cases r2
    exact h0 pins s σ H _ _ v u Q I rx ry ⟨_, _, rfl, rfl, w.here sr (.int _)⟩
  · exact w.elim
theorem ow_iadd {X : Cx} : PIp X .Add (rIpD (wd X) (intO2 fun i j => i + j)) := ow_ip ip_add
theorem ow_isub {X : Cx} : PIp X .Sub (rIpD (wd X) (intO2 fun i j => i - j)) := ow_ip ip_sub
section
variable {X : Cx} {E : L2.St → XK} {e : Expr} {pos pos' : Pos} {fe : Sig → AH → Res DV} {i : Nat} {x : Str} {op : Operator} {o : Op2}
theorem ds_aug (hN : X.N.Nodup) (hi : X.N[i]? = some x) (hx : Loc X.env.scope x) (he : DE X E e fe) (ho : PIp X op (rIpD (wd X) o)) (hf : X.fn x = true ∨ X.env.scope.names.lookup x = some .local := by first | exact .inl rfl | exact .inr rfl | assumption) :
    DS X E (.AugAssign (.Name x pos') op e pos) (dAug i o fe) := (ps_aug hN hi hx he ho hf).imp fun D σ H ⟨as, δ, S, sr, er, w⟩ => by
  unfold dAug at w
  split at w
  · rename_i a ea
    obtain ⟨v, q, r⟩ := er.get i a ea
    refine ⟨v, q, as, δ, S, sr, er, (w.bind er).mono fun _ _ _ _ _ _ _ _ _ ⟨as1, S1, d1, _, x1, s1, r1, w1⟩ => ?_⟩
    refine ⟨as1, S1, a, d1, s1, r.mono x1.w, r1, ?_⟩
    refine WR.wo (E := E σ) ((w1.bind (er.mono x1.w)).mono fun _ _ _ _ _ _ _ _ _ ⟨as2, S2, d2, _, x2, s2, r2, w2⟩ => ?_)
    exact w2.here s2 (((er.mono x1.w).mono x2.w).set r2 i)
  · exact w.elim
end

/-! ### o[i] op= e, o a list -/
def rGetD (M : Wd) : V → V → Hp → VK → Prop := fun x y H Q => ∃ as S d1 d2 ps i p, SR M as H S ∧ DVR M as H x d1 ∧ DVR M as H y d2 ∧ litems d1 S = some ps ∧ d2 = .p (.int i) ∧ atI ps i = some p ∧ ∀ v, PR M as H v p → Q v H
theorem ow_get {X : Cx} : PGet X (rGetD (wd X)) := by
  intro pins s σ H x y v u Q I rx ry h
  obtain ⟨as, S, d1, d2, ps, i, p, sr, r1, r2, e1, rfl, e2, q⟩ := h
  cases r2
  obtain ⟨a, vs, rfl, z, hq, t⟩ := litems_sq sr r1 e1
  obtain ⟨zv, e3, r3⟩ := atI_prs t e2
  cases rx
  obtain ⟨t', rfl⟩ := ry
  obtain ⟨its, r, pl, hz⟩ := I.list hq
  obtain ⟨j, h1, h2, h3, h4, h5⟩ := atI_get e3
  obtain ⟨w, ew, rw'⟩ := r.get h2
  have hl := r.length
  have hn := line63
  have fin : EP X pins σ Q w s := ⟨zv, H, I, rw', q zv r3⟩
  by_cases h0 : 0 ≤ i
  · have hj : i.toNat = j := by
      rw [seqIndex_of h0 h5] at h1
      exact Option.some.inj h1
    exact wpAny_getItem_list pl.isList h0 (by omega) (by rw [hj]; simpa using ew) fin
  · have hj : (i + (its.toArray.size : Int)).toNat = j := by
      rw [seqIndex_neg (by omega) h4] at h1
      rw [List.size_toArray, ← hl]
      exact Option.some.inj h1
    exact wpAny_getItem_list_neg pl.isList (by omega) (by rw [List.size_toArray] <;> omega) (by omega) (by rw [hj]; simpa using ew) fin
def dAugS (o : Op2) (fo fi fe : Sig → AH → Res DV) : Sig → AH → Out := fun δ S => (fo δ S).out δ fun a S => (fi δ S).out δ fun b S => match b with
  | .p (.int i) => match (litems a S).bind fun ps => atI ps i with
    | some x => (fe δ S).out δ fun y S => (lift (o (.p x) y S)).out δ fun v S => match setIx a b v S with
      | some S' => .nx δ S'
      | none => .bad
    | none => .bad
  | _ => .bad
section
variable {X : Cx} {E : L2.St → XK} {ob i e : Expr} {pos tpos : Pos} {fe fo fi : Sig → AH → Res DV} {op : Operator} {o : Op2}
theorem ds_augS (ho : DE X E ob fo) (hi : DE X E i fi) (he : DE X E e fe) (hp : PIp X op (rIpD (wd X) o))
    (ha : ∀ ov iv new, augStore i ov iv new = (do holding [new, ov, iv] (setItem ov iv new); release [new, ov, iv] []; pure .next) := by intros; rfl) : DS X E (.AugAssign (.Subscript ob i tpos) op e pos) (dAugS o fo fi fe) :=
  (ps_augS ho hi ow_get he hp ow_setIx ha).imp fun D σ H ⟨as, δ, S, sr, er, w⟩ =>
  ⟨as, δ, S, sr, er, (w.bind er).mono fun _ _ _ _ _ _ _ _ _ ⟨as1, S1, d1, _, x1, s1, r1, w1⟩ => ⟨as1, δ, S1, s1, er.mono x1.w, (w1.bind (er.mono x1.w)).mono fun _ _ _ _ _ _ _ _ _ ⟨as2, S2, d2, _, x2, s2, r2, w2⟩ => by
    have er2 := (er.mono x1.w).mono x2.w
    split at w2
    · rename_i k
      split at w2
      · rename_i x ex
        simp only [Option.bind_eq_some_iff] at ex
        obtain ⟨ps, ep, ea⟩ := ex
        refine ⟨as2, S2, d1, _, ps, _, x, s2, r1.mono x2.w, r2, ep, rfl, ea, fun v rv => ?_⟩
        refine ⟨as2, δ, S2, s2, er2, (w2.bind er2).mono fun _ _ _ _ _ _ _ _ _ ⟨as3, S3, d3, _, x3, s3, r3, w3⟩ => ?_⟩
        refine ⟨as3, S3, .p x, d3, s3, rv.mono x3.w, r3, ?_⟩
        refine WR.wo (E := E σ) ((w3.bind (er2.mono x3.w)).mono fun _ _ _ _ _ _ _ _ _ ⟨as4, S4, d4, _, x4, s4, r4, w4⟩ => ?_)
        split at w4
        · rename_i S' eq
          exact ⟨as4, S4, d1, _, d4, s4, ((r1.mono x2.w).mono x3.w).mono x4.w, (r2.mono x3.w).mono x4.w, r4, S', eq, fun as' H' x s => w4 as' H' σ x s (((er2.mono x3.w).mono x4.w).mono x.w)⟩
        · exact w4.elim
      · exact w2.elim
    · exact w2.elim⟩⟩
end
end
end DL
namespace DL
noncomputable section
open PySem PySem.Spec PyProof.Rows L2

/-! ### for -/
open Classical in
noncomputable def forGo (ck : AH → Prop) (q : Pat) (fb : Sig → AH → Out) : List DV → Sig → AH → Out
  | [], δ, S => if ck S then .nx δ S else .bad
  | x :: xs, δ, S => if ck S then match q.set x δ with
    | none => .bad
    | some δ1 => match fb δ1 S with
      | .nx δ2 S2 => forGo ck q fb xs δ2 S2
      | .ct δ2 S2 => forGo ck q fb xs δ2 S2
      | .bk δ2 S2 => .nx δ2 S2
      | o => o
    else .bad
noncomputable def dFor (fi : Sig → AH → Res Its') (q : Pat) (fb : Sig → AH → Out) : Sig → AH → Out := fun δ S => (fi δ S).out δ fun x S1 => forGo x.2 q fb x.1 δ S1
section
variable {X : Cx} {E : L2.St → XK} {tg iter : Expr} {body : List Stmt} {pos : Pos} {fi : Sig → AH → Res Its'} {q : Pat} {fb : Sig → AH → Out}
theorem ds_for (g : Gd X E) (hi : DI X E tg iter fi) (hg : DG X tg q) (hb : DSs X E body fb) (hs : ∀ x, foldedSetIterable iter X.env x = pure x := by intro _; rfl) : DS X E (.For tg iter body [] pos) (dFor fi q fb) :=
  (ps_for g.po g.calm hi hg hb hs).imp fun D σ H ⟨as, δ, S, sr, er, w⟩ =>
  ⟨as, δ, S, sr, er, (w.bind er).mono fun _ _ _ H1 J _ _ _ _ ⟨as1, S1, x, _, e1, s1, y1, w1⟩ => by
    obtain ⟨xs, ck⟩ := x
    dsimp only at y1 w1
    refine ⟨fun i m σ H => m = xs.length - i ∧ i ≤ xs.length ∧ ∃ as' δ' S', Ext as1 H1 as' H ∧ SR (wd X) as' H S' ∧ ER (wd X) as' H σ δ' ∧ WS (wd X) E D as' H (forGo ck q fb (xs.drop i) δ' S'), ⟨xs.length, rfl, Nat.zero_le _, as1, δ, S1, Ext.refl _ _, s1, er.mono e1.w, w1⟩, ?_⟩
    rintro i m σ H ⟨rfl, hi, as2, δ2, S2, e2, s2, er2, w2⟩
    by_cases hlt : i < xs.length
    · have hx : xs[i]? = some xs[i] := List.getElem?_eq_getElem hlt
      have hd : xs.drop i = xs[i] :: xs.drop (i + 1) := List.drop_eq_getElem_cons hlt
      rw [hd] at w2
      unfold forGo at w2
      have hck : ck S2 := by
        refine Classical.byContradiction fun n => ?_
        rw [if_neg n] at w2
        exact w2
      rw [if_pos hck] at w2
      refine .inr ⟨y1.go _ _ _ e2.w s2 hck i hlt, fun σ H => i + 1 ≤ xs.length ∧ ∃ as' δ' S', Ext as1 H1 as' H ∧ SR (wd X) as' H S' ∧ ER (wd X) as' H σ δ' ∧ WS (wd X) E D as' H (forGo ck q fb (xs.drop (i + 1)) δ' S'), fun σ' H' n => ⟨xs.length - (i + 1), by omega, rfl, n.1, n.2⟩, fun v H' yv => ?_⟩
      obtain ⟨e3, s3, r3⟩ := y1.yld _ _ _ e2.w s2 hck i _ v H' hx yv
      cases eq : q.set xs[i] δ2 with
      | none => rw [eq] at w2; exact w2.elim
      | some δ3 =>
        rw [eq] at w2
        dsimp only at w2
        refine tPat_ok (M := wd X) q (er2.mono e3.w) r3 eq fun σ3 er3 _ => ⟨as2, δ3, S2, s3, er3, ?_⟩
        cases eb : fb δ3 S2 with
        | nx δ4 S4 =>
          rw [eb] at w2
          exact fun as' H' σ' x s r => ⟨hlt, as', δ4, S4, (e2.trans e3).trans x, s, r, WS.later (e3.trans x) w2⟩
        | ct δ4 S4 =>
          rw [eb] at w2
          exact fun as' H' σ' x s r => ⟨hlt, as', δ4, S4, (e2.trans e3).trans x, s, r, WS.later (e3.trans x) w2⟩
        | bk δ4 S4 =>
          rw [eb] at w2
          exact fun as' H' σ' x s r => w2 as' H' σ' (e3.trans x) s r
        | rt d S4 =>
          rw [eb] at w2
          exact fun as' H' v x s r => w2 as' H' v (e3.trans x) s r
        | rtT d S4 =>
          rw [eb] at w2
          exact fun as' H' v x s r => w2 as' H' v (e3.trans x) s r
        | exc c p δ4 S4 =>
          rw [eb] at w2
          exact fun as' H' σ' cls dd x s r => w2 as' H' σ' cls dd (e3.trans x) s r
        | bad => rw [eb] at w2; exact w2.elim
    · have hi' : i = xs.length := by omega
      subst hi'
      rw [List.drop_length] at w2
      unfold forGo at w2
      have hck : ck S2 := by
        refine Classical.byContradiction fun n => ?_
        rw [if_neg n] at w2
        exact w2
      rw [if_pos hck] at w2
      exact .inl ⟨y1.stop _ _ _ e2.w s2 hck, w2.here s2 er2⟩⟩
end

/-! ### while -/
def whN (fc : Sig → AH → Res Bool) (fb : Sig → AH → Out) : Nat → Sig → AH → Out
  | 0, _, _ => .bad
  | n + 1, δ, S => (fc δ S).out δ fun b S1 => if b = true then match fb δ S1 with
      | .nx δ2 S2 => whN fc fb n δ2 S2
      | .ct δ2 S2 => whN fc fb n δ2 S2
      | .bk δ2 S2 => .nx δ2 S2
      | o => o
    else .nx δ S1
theorem whN_up {fc : Sig → AH → Res Bool} {fb : Sig → AH → Out} : ∀ (n : Nat) (δ : Sig) (S : AH), whN fc fb n δ S ≠ .bad → whN fc fb (n + 1) δ S = whN fc fb n δ S
  | 0, δ, S, h => absurd rfl h
  | n + 1, δ, S, h => by
    unfold whN at h ⊢
    cases e : fc δ S with
    | bad => rw [e] at h; exact absurd rfl h
    | exc c p S1 => rfl
    | ok b S1 =>
      rw [e] at h
      simp only [out_ok] at h ⊢
      cases b with
      | false => rfl
      | true =>
        simp only [if_true] at h ⊢
        cases e2 : fb δ S1 with
        | nx δ2 S2 => rw [e2] at h; exact whN_up n δ2 S2 h
        | ct δ2 S2 => rw [e2] at h; exact whN_up n δ2 S2 h
        | bk δ2 S2 => rfl
        | rt d S2 => rfl
        | rtT d S2 => rfl
        | exc c p δ2 S2 => rfl
        | bad => rfl
theorem whN_le {fc : Sig → AH → Res Bool} {fb : Sig → AH → Out} {δ : Sig} {S : AH} {n : Nat} (h : whN fc fb n δ S ≠ .bad) : ∀ m, n ≤ m → whN fc fb m δ S = whN fc fb n δ S := by
  intro m hm
  induction m with
  | zero => have : n = 0 := by omega
            subst this; rfl
  | succ m ih =>
    by_cases e : n ≤ m
    · have q := ih e
      rw [whN_up m δ S (by rw [q]; exact h), q]
    · have : n = m + 1 := by omega
      rw [this]
open Classical in
noncomputable def dWhile (fc : Sig → AH → Res Bool) (fb : Sig → AH → Out) : Sig → AH → Out := fun δ S => if h : ∃ n, whN fc fb n δ S ≠ .bad then whN fc fb (choose h) δ S else .bad
theorem dWhile_at {fc : Sig → AH → Res Bool} {fb : Sig → AH → Out} {δ : Sig} {S : AH} {n : Nat} (h : whN fc fb n δ S ≠ .bad) : dWhile fc fb δ S = whN fc fb n δ S := by
  have hx : ∃ n, whN fc fb n δ S ≠ .bad := ⟨n, h⟩
  unfold dWhile
  rw [dif_pos hx]
  have hc := Classical.choose_spec hx
  by_cases e : n ≤ Classical.choose hx
  · exact whN_le h _ e
  · exact (whN_le hc _ (by omega)).symm
theorem dWhile_bad {fc : Sig → AH → Res Bool} {fb : Sig → AH → Out} {δ : Sig} {S : AH} (h : ∀ n, whN fc fb n δ S = .bad) : dWhile fc fb δ S = .bad := by
  unfold dWhile
  rw [dif_neg fun ⟨n, q⟩ => q (h n)]
/-- one turn -/
theorem dWhile_eq (fc : Sig → AH → Res Bool) (fb : Sig → AH → Out) (δ : Sig) (S : AH) : dWhile fc fb δ S = (fc δ S).out δ fun b S1 => if b = true then match fb δ S1 with
      | .nx δ2 S2 => dWhile fc fb δ2 S2
      | .ct δ2 S2 => dWhile fc fb δ2 S2
      | .bk δ2 S2 => .nx δ2 S2
      | o => o
    else .nx δ S1 := by
  have step : ∀ n, whN fc fb (n + 1) δ S = (fc δ S).out δ fun b S1 => if b = true then match fb δ S1 with
      | .nx δ2 S2 => whN fc fb n δ2 S2
      | .ct δ2 S2 => whN fc fb n δ2 S2
      | .bk δ2 S2 => .nx δ2 S2
      | o => o
    else .nx δ S1 := fun n => rfl
  have deep : ∀ (δ2 : Sig) (S2 : AH), (∀ n, whN fc fb (n + 1) δ S = whN fc fb n δ2 S2) → dWhile fc fb δ S = dWhile fc fb δ2 S2 := by
    intro δ2 S2 h
    by_cases hx : ∃ n, whN fc fb n δ2 S2 ≠ .bad
    · obtain ⟨n, hn⟩ := hx
      rw [dWhile_at hn, dWhile_at (n := n + 1) (by rw [h]; exact hn), h]
    · have h2 : ∀ n, whN fc fb n δ2 S2 = .bad := fun n => Classical.byContradiction fun q => hx ⟨n, q⟩
      rw [dWhile_bad h2]
      refine dWhile_bad fun n => ?_
      cases n with
      | zero => rfl
      | succ n => rw [h, h2]
  have flat : ∀ o : Out, (∀ n, whN fc fb (n + 1) δ S = o) → dWhile fc fb δ S = o := by
    intro o h
    by_cases e : o = .bad
    · subst e
      refine dWhile_bad fun n => ?_
      cases n with
      | zero => rfl
      | succ n => exact h n
    · rw [dWhile_at (n := 1) (by rw [h 0]; exact e), h 0]
  cases e : fc δ S with
  | bad => exact flat _ fun n => by rw [step, e]; rfl
  | exc c p S1 => exact flat _ fun n => by rw [step, e]; rfl
  | ok b S1 =>
    cases b with
    | false => exact flat _ fun n => by rw [step, e]; rfl
    | true =>
      cases e2 : fb δ S1 with
      | nx δ2 S2 =>
        simp only [out_ok, if_true, e2]
        exact deep _ _ fun n => by rw [step, e]; simp only [out_ok, if_true, e2]
      | ct δ2 S2 =>
        simp only [out_ok, if_true, e2]
        exact deep _ _ fun n => by rw [step, e]; simp only [out_ok, if_true, e2]
      | bk δ2 S2 => exact flat _ fun n => by rw [step, e]; simp only [out_ok, if_true, e2]
      | rt d S2 => exact flat _ fun n => by rw [step, e]; simp only [out_ok, if_true, e2]
      | rtT d S2 => exact flat _ fun n => by rw [step, e]; simp only [out_ok, if_true, e2]
      | exc c p δ2 S2 => exact flat _ fun n => by rw [step, e]; simp only [out_ok, if_true, e2]
      | bad => exact flat _ fun n => by rw [step, e]; simp only [out_ok, if_true, e2]
section
variable {X : Cx} {E : L2.St → XK} {c : Expr} {body : List Stmt} {pos : Pos} {fc : Sig → AH → Res Bool} {fb : Sig → AH → Out}
theorem ds_while (g : Gd X E) (hc : DT X E c fc) (hb : DSs X E body fb) : DS X E (.While c body [] pos) (dWhile fc fb) :=
  (ps_while g.po hc hb).imp fun D σ H ⟨as, δ, S, sr, er, w⟩ => by
  have hb : ∃ n, whN fc fb n δ S ≠ .bad := by
    refine Classical.byContradiction fun q => ?_
    rw [dWhile_bad fun n => Classical.byContradiction fun z => q ⟨n, z⟩] at w
    exact w
  obtain ⟨n, hn⟩ := hb
  rw [dWhile_at hn] at w
  refine ⟨fun m σ H => ∃ as δ S, SR (wd X) as H S ∧ ER (wd X) as H σ δ ∧ WS (wd X) E D as H (whN fc fb m δ S), ⟨n, as, δ, S, sr, er, w⟩, ?_⟩
  rintro m σ H ⟨as, δ, S, sr, er, w⟩
  cases m with
  | zero => exact w.elim
  | succ m =>
    unfold whN at w
    refine ⟨as, δ, S, sr, er, (w.bind er).mono fun _ _ _ H1 k _ _ _ _ ⟨as1, S1, d1, _, x1, s1, r1, w1⟩ => ?_⟩
    cases r1
    cases k with
    | false => exact w1.here s1 (er.mono x1.w)
    | true =>
      rw [if_pos rfl] at w1 ⊢
      refine ⟨fun σ H => ∃ as δ S, SR (wd X) as H S ∧ ER (wd X) as H σ δ ∧ WS (wd X) E D as H (whN fc fb m δ S), fun σ' H' h => ⟨m, Nat.lt_succ_self m, h⟩, as1, δ, S1, s1, er.mono x1.w, ?_⟩
      cases eb : fb δ S1 with
      | nx δ4 S4 =>
        rw [eb] at w1
        exact fun as' H' σ' x s r => ⟨as', δ4, S4, s, r, WS.later x w1⟩
      | ct δ4 S4 =>
        rw [eb] at w1
        exact fun as' H' σ' x s r => ⟨as', δ4, S4, s, r, WS.later x w1⟩
      | bk δ4 S4 =>
        rw [eb] at w1
        exact fun as' H' σ' x s r => w1 as' H' σ' x s r
      | rt d S4 =>
        rw [eb] at w1
        exact fun as' H' v x s r => w1 as' H' v x s r
      | rtT d S4 =>
        rw [eb] at w1
        exact fun as' H' v x s r => w1 as' H' v x s r
      | exc c p δ4 S4 =>
        rw [eb] at w1
        exact fun as' H' σ' cls dd x s r => w1 as' H' σ' cls dd x s r
      | bad => rw [eb] at w1; exact w1.elim
end

/-! ### raise, try -/
def dRaise (c : Str) : Sig → AH → Out := fun δ S => .exc c [] δ S
section
variable {X : Cx} {E : L2.St → XK} {e : Expr} {pos : Pos} {c : Str} {C : Addr}
theorem ds_raise (g : Gd X E) (he : PMk X e (fun _ H Q => Q (.ref C) none H)) (hm : X.mg c = some (.ref C)) : DS X E (.Raise (some e) none pos) (dRaise c) := (ps_raise g.calm g.tk he).imp fun D σ H ⟨as, δ, S, sr, er, w⟩ =>
  w as H σ (.ref C) none (Ext.refl _ _) sr er ⟨hm, fun _ => rfl, fun h => absurd rfl h⟩
end
def _root_.DL.Out.nox : Out → Out
  | .exc _ _ _ _ => .bad
  | o => o
/-- which classes a clause catches -/
def dTry (sub : Str → Option Bool) (fb fs : Sig → AH → Out) : Sig → AH → Out := fun δ S => match fb δ S with
  | .exc c p δ' S' => match sub c with
    | some true => (fs δ' S').nox
    | some false => .exc c p δ' S'
    | none => .bad
  | o => o
section
variable {X : Cx} {E : L2.St → XK} {x : Str} {c : Value} {body suite : List Stmt} {b₀ : Stmt} {np pos pos' : Pos} {fb fs : Sig → AH → Out} {sub : Str → Option Bool}
theorem ds_try (g : Gd X E) (hs : X.stack = X.env :: X.outer) (hf : X.env.frame = some X.env.locals) (hc : Names X x c) (hsub : ∀ n b cls, sub n = some b → X.mg n = some cls → PySem.W.exmOne X.K cls c = some b)
    (hb : ∀ (W : WX) (pn : List (Addr × Obj)) (xe : Value → Shared → Prop), Gd (X.tr pn xe) (WE W) → DSs (X.tr pn xe) (WE W) body fb)
    (hsu : ∀ (a : Addr) (pn : List (Addr × Obj)), DSs (X.suite a pn) EN (b₀ :: suite) fs) : DS X E (.Try body [.ExceptHandler (some (.Name x np)) none (b₀ :: suite) pos'] [] [] pos) (dTry sub fb fs) :=
  (ps_try_only (tb := fun W => tS (wd X) (WE W) fb) (ts := fun _ _ _ => tS (wd X) EN fs) (Wout := fun cls d σ H => E σ cls d H) hs hf hc g.tk (fun W pn xe tk po => hb W pn xe ⟨g.calm, tk, po⟩) (fun a oe cls d pn _ _ => hsu a _)).imp fun D σ H ⟨as, δ, S, sr, er, w⟩ => by
  refine ⟨as, δ, S, sr, er, ?_⟩
  unfold dTry at w
  split at w
  · rename_i n p δ' S' eq
    rw [eq]
    intro as' H' σ' cls dd x' s' r' ex
    split at w
    · rename_i e1
      refine ⟨true, hsub n true cls e1 ex.1, fun _ a na => ⟨as', δ', S', s', r', ?_⟩, fun z => Bool.noConfusion z⟩
      have w' := WS.later x' w
      cases ef : fs δ' S' with
      | nx δ4 S4 => rw [ef] at w'; exact w'
      | ct δ4 S4 => rw [ef] at w'; exact w'
      | bk δ4 S4 => rw [ef] at w'; exact w'
      | rt d S4 => rw [ef] at w'; exact w'
      | rtT d S4 => rw [ef] at w'; exact w'
      | exc c p δ4 S4 => rw [ef] at w'; exact w'.elim
      | bad => rw [ef] at w'; exact w'
    · rename_i e1
      exact ⟨false, hsub n false cls e1 ex.1, fun z => Bool.noConfusion z, fun _ => w as' H' σ' cls dd x' s' r' ex⟩
    · exact w.elim
  · rename_i n
    cases eq : fb δ S with
    | nx δ1 S1 => rw [eq] at w; exact w
    | rt d S1 => rw [eq] at w; exact w
    | rtT d S1 => rw [eq] at w; exact w
    | bk δ1 S1 => rw [eq] at w; exact w
    | ct δ1 S1 => rw [eq] at w; exact w
    | exc c p δ1 S1 => exact absurd eq (n _ _ _ _)
    | bad => rw [eq] at w; exact w
end

/-! ### defs -/
/-- a nest below may not name what is dropped, or it is as it was -/
def okc (n : Nat) (a b : Cell) : Prop := match b with
  | .lst _ => True
  | .nst ks => a = .nst ks ∨ ∀ k ∈ ks, k < n
  | .dct _ => True
  | .fn => True
  | .tab _ => True
def okC (n : Nat) : AH → AH → Prop
  | [], _ => True
  | _ :: _, [] => True
  | a :: S, b :: S' => okc n a b ∧ okC n S S'
theorem okC_get {n : Nat} : ∀ {S S' : AH} {i : Nat} {a : Cell} {ks : List Nat}, okC n S S' → S[i]? = some a → S'[i]? = some (.nst ks) → a = .nst ks ∨ ∀ k ∈ ks, k < n
  | [], _, i, a, ks, _, e, _ => by simp at e
  | _ :: _, [], i, a, ks, _, _, e => by simp at e
  | c :: S, d :: S', 0, a, ks, h, e, e' => by
    simp at e e'
    subst e e'
    exact h.1
  | c :: S, d :: S', i + 1, a, ks, h, e, e' => okC_get (i := i) h.2 (by simpa using e) (by simpa using e')
theorem okc_self (n : Nat) (a : Cell) : okc n a a := by
  cases a with
  | lst _ => trivial
  | nst ks => exact .inl rfl
  | dct _ => trivial
  | fn => trivial
  | tab _ => trivial
theorem okC_app (n : Nat) : ∀ (S J : AH), okC n S (S ++ J)
  | [], _ => trivial
  | a :: S, J => ⟨okc_self n a, okC_app n S J⟩
theorem okC_self (n : Nat) (S : AH) : okC n S S := by
  have := okC_app n S []
  rwa [List.append_nil] at this
def _root_.DL.Out.heap : Out → AH
  | .nx _ S => S
  | .rt _ S => S
  | .rtT _ S => S
  | .bk _ S => S
  | .ct _ S => S
  | .exc _ _ _ S => S
  | .bad => []
/-- a flat cell above n, frozen -/
def frzC (n : Nat) (S : AH) (k : Nat) : Option PV := if n ≤ k then match S[k]? with
    | some (.lst xs) => some (.lst xs)
    | _ => none
  else none
def frzCs (n : Nat) (S : AH) : List Nat → Option (List PV)
  | [] => some []
  | k :: ks => (frzC n S k).bind fun x => (frzCs n S ks).map fun r => x :: r
def frzD (n : Nat) (S : AH) : DV → Option PV
  | .p x => some x
  | .c k => if n ≤ k then match S[k]? with
      | some (.lst xs) => some (.lst xs)
      | some (.nst ks) => (frzCs n S ks).map .lst
      | _ => none
    else none
def frzDs (n : Nat) (S : AH) : List DV → Option (List PV)
  | [] => some []
  | d :: ds => (frzD n S d).bind fun x => (frzDs n S ds).map fun r => x :: r
/-- what a body gives: cells that nobody needs any more are dropped -/
def gcR (n : Nat) (keep : Bool) (o : Out) : Res DV := match o with
  | .nx _ S' => .ok (.p .non) (S'.take n)
  | .rt (.p v) S' => .ok (.p v) (S'.take n)
  | .rt (.c i) S' => if i < n then .ok (.c i) (S'.take n) else match S'[i]? with
    | some (.lst xs) => if keep = true then .ok (.c n) (S'.take n ++ [.lst xs]) else .ok (.p (.lst xs)) (S'.take n)
    | some (.nst ks) => match frzCs n S' ks with
      | some ps => .ok (.p (.lst ps)) (S'.take n)
      | _ => .bad
    | _ => .bad
  | .rtT ds S' => match frzDs n S' ds with
    | some ps => .ok (.p (.tup ps)) (S'.take n)
    | _ => .bad
  | .exc c p _ S' => .exc c p (S'.take n)
  | _ => .bad
open Classical in
def gcK (S : AH) (keep : Bool) (o : Out) : Res DV := if okC S.length S o.heap then gcR S.length keep o else .bad
def dDef (N n : Nat) (keep : Bool) (body : Sig → AH → Out) : List DV → AH → Res DV := fun ds S => if ds.length = n then gcK S keep (body (ds.map some ++ List.replicate (N - n) none) S) else .bad
section
variable {M : Wd} {as as' : As} {H H' : Hp} {S S' : AH}
theorem As.off_less {as as' : As} (hc : ∃ m, as'.cells = as.cells ++ m) (hh : as'.hid = as.hid) {a : Addr} (h : as'.off a) : as.off a := by
  obtain ⟨m, e⟩ := hc
  exact ⟨fun z => h.1 (by rw [e]; exact List.mem_append_left _ z), by rw [← hh]; exact h.2⟩
mutual
theorem PR.fewer (f : ∀ a, as'.off a → as.off a) : ∀ {v : V} {x : PV}, PR M as' H v x → PR M as H v x
  | _, _, .non => .non
  | _, _, .bl b => .bl b
  | _, _, .int i => .int i
  | _, _, .str y => .str y
  | _, _, .tup h t => .tup ⟨h.1, h.2.imp (fun ⟨e, q⟩ => ⟨e, f _ q⟩) id⟩ (PRs.fewer f t)
  | _, _, .lst ⟨z, e, q⟩ t => .lst ⟨z, e, f _ q⟩ (PRs.fewer f t)
  | _, _, .fro h t => .fro ⟨h.1, h.2.imp (fun ⟨e, q⟩ => ⟨e, f _ q⟩) id⟩ (PRs.fewer f t)
  | _, _, .glob h r => .glob h r
theorem PRs.fewer (f : ∀ a, as'.off a → as.off a) : ∀ {vs : List V} {ps : List PV}, PRs M as' H vs ps → PRs M as H vs ps
  | _, _, .nil => .nil
  | _, _, .cons h t => .cons (PR.fewer f h) (PRs.fewer f t)
end
theorem Ext.back (x : Ext as H as' H') : Ext as H as H' := ⟨⟨[], by simp⟩, rfl, fun a o e q => ⟨(x.keep a o e q).1, q⟩, x.hkeep, x.exts⟩
theorem cell_back (x : Ext as H as' H') (f : ∀ a, as'.off a → as.off a) (sr : SR M as H S) (s : SR M as' H' S') (ok : okC S.length S S') {i : Nat} {a : Addr} {c : Cell} (e1 : as.cells[i]? = some a) (e2 : S'[i]? = some c) : CR M as H' a c := by
  have q := s.cell i a c (x.get e1) e2
  cases c with
  | lst ps =>
    obtain ⟨vs, z, e, t⟩ := q
    exact ⟨vs, z, e, t.fewer f⟩
  | dct kvs =>
    obtain ⟨vs, z, e, t⟩ := q
    exact ⟨vs, z, e, t.fewer f⟩
  | fn => exact q
  | tab x => exact q
  | nst ks =>
    obtain ⟨vs, z, e, t⟩ := q
    refine ⟨vs, z, e, ?_⟩
    have hi : i < S.length := by rw [← sr.len]; exact (List.getElem?_eq_some_iff.mp e1).1
    have lt : ∀ k ∈ ks, k < as.cells.length := by
      rcases okC_get ok (List.getElem?_eq_getElem hi) e2 with h | h
      · obtain ⟨vs0, _, _, t0⟩ := sr.cell i a (.nst ks) e1 (by rw [List.getElem?_eq_getElem hi, h])
        have go : ∀ {vs : List V} {ks : List Nat}, KRs as vs ks → ∀ k ∈ ks, k < as.cells.length := by
          intro vs ks r
          induction r with
          | nil => intro k hk; cases hk
          | cons h t ih =>
            intro k hk
            rcases List.mem_cons.mp hk with rfl | hk
            · obtain ⟨b, e, _⟩ := h
              exact (List.getElem?_eq_some_iff.mp e).1
            · exact ih k hk
        exact go t0
      · rw [sr.len]; exact h
    obtain ⟨m, em⟩ := x.more
    have go : ∀ {vs : List V} {ks : List Nat}, KRs as' vs ks → (∀ k ∈ ks, k < as.cells.length) → KRs as vs ks := by
      intro vs ks r
      induction r with
      | nil => intro _; exact .nil
      | cons h t ih =>
        intro hk
        obtain ⟨b, e, r⟩ := h
        refine .cons ⟨b, ?_, r⟩ (ih fun k hk' => hk k (List.mem_cons_of_mem _ hk'))
        rw [em, List.getElem?_append_left (hk _ List.mem_cons_self)] at e
        exact e
    exact go t lt
theorem SR.back (x : Ext as H as' H') (sr : SR M as H S) (s : SR M as' H' S') (ok : okC S.length S S') : SR M as H' (S'.take S.length) := by
  obtain ⟨m, em⟩ := x.more
  have f : ∀ a, as'.off a → as.off a := fun a => As.off_less x.more x.hids
  have hlen : as.cells.length ≤ S'.length := by rw [← s.len, em, List.length_append]; omega
  refine ⟨by rw [List.length_take, ← sr.len]; omega, sr.nd, sr.apart, fun a ha => ?_, fun i a c e1 e2 => ?_⟩
  · obtain ⟨o, e⟩ := sr.hidd a ha
    exact ⟨o, x.hkeep a o ha e⟩
  · have hi : i < as.cells.length := (List.getElem?_eq_some_iff.mp e1).1
    rw [List.getElem?_take_of_lt (by rw [← sr.len]; exact hi)] at e2
    exact cell_back x f sr s ok e1 e2
theorem Ext.back1 (x : Ext as H as' H') {i : Nat} {a : Addr} (e : as'.cells[i]? = some a) : Ext as H (as.add a) H' := by
  refine ⟨⟨[a], rfl⟩, rfl, fun b o e1 q => ?_, x.hkeep, x.exts⟩
  obtain ⟨h1, h2⟩ := x.keep b o e1 q
  refine ⟨h1, fun z => ?_, q.2⟩
  rcases List.mem_append.mp z with z | z
  · exact q.1 z
  · have : b = a := by simpa using z
    subst this
    exact h2.1 (List.mem_of_getElem? e)
theorem SR.back1 (x : Ext as H as' H') (sr : SR M as H S) (s : SR M as' H' S') {i : Nat} {a : Addr} {xs : List PV} (ok : okC S.length S S') (hi : S.length ≤ i) (e : as'.cells[i]? = some a) (eS : S'[i]? = some (.lst xs)) : SR M (as.add a) H' (S'.take S.length ++ [.lst xs]) := by
  have b := SR.back x sr s ok
  obtain ⟨m, em⟩ := x.more
  have na : a ∉ as.cells := fun z => by
    obtain ⟨j, hj⟩ := List.mem_iff_getElem?.mp z
    have h1 : j < as.cells.length := (List.getElem?_eq_some_iff.mp hj).1
    have h2 := x.get hj
    have h3 : j < as'.cells.length := (List.getElem?_eq_some_iff.mp h2).1
    have h4 : i < as'.cells.length := (List.getElem?_eq_some_iff.mp e).1
    rw [List.getElem?_eq_getElem h3] at h2
    rw [List.getElem?_eq_getElem h4] at e
    have h5 := (List.getElem_inj s.nd).mp (show as'.cells[j] = as'.cells[i] by rw [Option.some.inj h2, Option.some.inj e])
    rw [sr.len] at h1
    omega
  have f : ∀ b, as'.off b → (as.add a).off b := fun b q => by
    refine ⟨fun z => ?_, fun z => q.2 (by rw [x.hids]; exact z)⟩
    rcases List.mem_append.mp z with z | z
    · exact q.1 (by rw [em]; exact List.mem_append_left _ z)
    · have : b = a := by simpa using z
      subst this
      exact q.1 (List.mem_of_getElem? e)
  have hl : (S'.take S.length).length = as.cells.length := b.len.symm
  refine ⟨by unfold As.add; rw [List.length_append, List.length_append, hl]; rfl, List.nodup_append.mpr ⟨sr.nd, by simp, fun c hc d hd z => ?_⟩, fun c hc => ?_, b.hidd, fun j c cl e1 e2 => ?_⟩
  · have : d = a := by simpa using hd
    subst this
    subst z
    exact na hc
  · rcases List.mem_append.mp hc with z | z
    · exact sr.apart c z
    · have : c = a := by simpa using z
      subst this
      exact fun q => s.apart c (List.mem_of_getElem? e) (by rw [x.hids]; exact q)
  · have e1 : (as.cells ++ [a])[j]? = some c := e1
    by_cases hj : j < as.cells.length
    · rw [List.getElem?_append_left hj] at e1
      rw [List.getElem?_append_left (by rw [hl]; exact hj)] at e2
      rw [List.getElem?_take_of_lt (by rw [← sr.len]; exact hj)] at e2
      have q := cell_back x (fun a => As.off_less x.more x.hids) sr s ok e1 e2
      cases cl with
      | lst ps =>
        obtain ⟨vs, z, e, t⟩ := q
        obtain ⟨vs', z', e', t'⟩ := s.cell j c (.lst ps) (x.get e1) e2
        exact ⟨vs', z', e', t'.fewer f⟩
      | dct kvs =>
        obtain ⟨vs', z', e', t'⟩ := s.cell j c (.dct kvs) (x.get e1) e2
        exact ⟨vs', z', e', t'.fewer f⟩
      | fn => exact q
      | tab x => exact q
      | nst ks =>
        obtain ⟨vs, z, e, t⟩ := q
        exact ⟨vs, z, e, Paired.mapP t fun _ _ ⟨b, e, r⟩ => ⟨b, by unfold As.add; rw [List.getElem?_append_left (List.getElem?_eq_some_iff.mp e).1]; exact e, r⟩⟩
    · have hl2 : j < (as.cells ++ [a]).length := (List.getElem?_eq_some_iff.mp e1).1
      rw [List.length_append, List.length_singleton] at hl2
      have hj' : j = as.cells.length := by omega
      subst hj'
      rw [List.getElem?_append_right (Nat.le_refl _), Nat.sub_self] at e1
      rw [← hl, List.getElem?_append_right (Nat.le_refl _), Nat.sub_self] at e2
      have e1' : a = c := by simpa using e1
      have e2' : Cell.lst xs = cl := by simpa using e2
      subst e1'
      subst e2'
      obtain ⟨b2, vs, eb, z, hb, t⟩ := s.at eS
      rw [e] at eb; cases eb
      exact ⟨vs, z, hb, t.fewer f⟩
end
/-- a cell above is off behind -/
theorem off_back {M : Wd} {as as' : As} {H H' : Hp} {S S' : AH} (x : Ext as H as' H') (sr : SR M as H S) (s : SR M as' H' S') {i : Nat} {a : Addr} (hi : S.length ≤ i) (ea : as'.cells[i]? = some a) : as.off a := by
  refine ⟨fun q => ?_, fun q => s.apart a (List.mem_of_getElem? ea) (by rw [x.hids]; exact q)⟩
  obtain ⟨j, hj⟩ := List.mem_iff_getElem?.mp q
  have h1 : j < as.cells.length := (List.getElem?_eq_some_iff.mp hj).1
  have h2 := x.get hj
  have h3 : j < as'.cells.length := (List.getElem?_eq_some_iff.mp h2).1
  have h4 : i < as'.cells.length := (List.getElem?_eq_some_iff.mp ea).1
  rw [List.getElem?_eq_getElem h3] at h2
  rw [List.getElem?_eq_getElem h4] at ea
  have h5 := (List.getElem_inj s.nd).mp (show as'.cells[j] = as'.cells[i] by rw [Option.some.inj h2, Option.some.inj ea])
  rw [sr.len] at h1
  omega
section
variable {M : Wd} {as as' : As} {H H' : Hp} {S S' : AH}
theorem frzC_ok (x : Ext as H as' H') (sr : SR M as H S) (s : SR M as' H' S') {k : Nat} {a : Addr} {p : PV} (ea : as'.cells[k]? = some a) (e : frzC S.length S' k = some p) : PR M as H' (.ref a) p := by
  unfold frzC at e
  split at e
  · rename_i hk
    split at e
    · rename_i xs eS
      cases e
      obtain ⟨b2, vs, eb, z, hb, t⟩ := s.at eS
      rw [ea] at eb; cases eb
      exact .lst ⟨z, hb, off_back x sr s hk ea⟩ (t.fewer fun a => As.off_less x.more x.hids)
    · cases e
  · cases e
theorem frzCs_ok (x : Ext as H as' H') (sr : SR M as H S) (s : SR M as' H' S') : ∀ {ks : List Nat} {vs : List V} {ps : List PV}, KRs as' vs ks → frzCs S.length S' ks = some ps → PRs M as H' vs ps
  | [], _, _, .nil, e => by cases e; exact .nil
  | k :: ks, _, _, .cons h t, e => by
    simp only [frzCs, Option.bind_eq_some_iff, Option.map_eq_some_iff] at e
    obtain ⟨y, e1, r, e2, rfl⟩ := e
    obtain ⟨b, eb, rfl⟩ := h
    exact .cons (frzC_ok x sr s eb e1) (frzCs_ok x sr s t e2)
theorem frzD_ok (x : Ext as H as' H') (sr : SR M as H S) (s : SR M as' H' S') {d : DV} {v : V} {p : PV} (r : DVR M as' H' v d) (e : frzD S.length S' d = some p) : PR M as H' v p := by
  cases d with
  | p y => cases e; exact PR.fewer (fun a => As.off_less x.more x.hids) r
  | c k =>
    obtain ⟨a, ea, rfl⟩ := r
    simp only [frzD] at e
    split at e
    · rename_i hk
      split at e
      · rename_i xs eS
        cases e
        obtain ⟨b2, vs, eb, z, hb, t⟩ := s.at eS
        rw [ea] at eb; cases eb
        exact .lst ⟨z, hb, off_back x sr s hk ea⟩ (t.fewer fun a => As.off_less x.more x.hids)
      · rename_i ks eS
        simp only [Option.map_eq_some_iff] at e
        obtain ⟨ps, e1, rfl⟩ := e
        obtain ⟨b2, vs, eb, z, hb, t⟩ := s.atN eS
        rw [ea] at eb; cases eb
        exact .lst ⟨z, hb, off_back x sr s hk ea⟩ (frzCs_ok x sr s t e1)
      · cases e
    · cases e
theorem frzDs_ok (x : Ext as H as' H') (sr : SR M as H S) (s : SR M as' H' S') : ∀ {ds : List DV} {vs : List V} {ps : List PV}, DVRs M as' H' vs ds → frzDs S.length S' ds = some ps → PRs M as H' vs ps
  | [], _, _, .nil, e => by cases e; exact .nil
  | d :: ds, _, _, .cons h t, e => by
    simp only [frzDs, Option.bind_eq_some_iff, Option.map_eq_some_iff] at e
    obtain ⟨y, e1, r, e2, rfl⟩ := e
    exact .cons (frzD_ok x sr s h e1) (frzDs_ok x sr s t e2)
end
theorem gc_ok {M : Wd} {E : XK} {as : As} {H : Hp} {S : AH} {Q : VK} {keep : Bool} {o : Out} (sr : SR M as H S) (w : WR M E (DVR M) as H (gcK S keep o) Q) : WS M (fun _ => E) { nx := fun _ H' => Q .non H', rt := Q } as H o := by
  have f : ∀ {as' : As} {H' : Hp}, Ext as H as' H' → ∀ a, as'.off a → as.off a := fun x a => As.off_less x.more x.hids
  have ok : okC S.length S o.heap := by
    refine Classical.byContradiction fun n => ?_
    unfold gcK at w
    rw [if_neg n] at w
    exact w
  unfold gcK at w
  rw [if_pos ok] at w
  cases o with
  | nx δ' S' => exact fun as' H' σ' x s r => w as H' .non x.back (SR.back x sr s ok) .non
  | rt d S' =>
    intro as' H' v x s r
    cases d with
    | p v => exact w as H' _ x.back (SR.back x sr s ok) (PR.fewer (f x) r)
    | c i =>
      unfold gcR at w
      dsimp only at w
      obtain ⟨a, ea, rfl⟩ := r
      split at w
      · rename_i hi
        refine w as H' _ x.back (SR.back x sr s ok) ⟨a, ?_, rfl⟩
        obtain ⟨m, em⟩ := x.more
        rw [em, List.getElem?_append_left (by rw [sr.len]; exact hi)] at ea
        exact ea
      · rename_i hi
        split at w
        · rename_i xs eS
          split at w
          · exact w (as.add a) H' _ (x.back1 ea) (SR.back1 x sr s ok (by omega) ea eS) ⟨a, by unfold As.add; rw [← sr.len]; simp, rfl⟩
          · obtain ⟨b2, vs, eb, z, hb, t⟩ := s.at eS
            rw [ea] at eb; cases eb
            exact w as H' _ x.back (SR.back x sr s ok) (PR.lst ⟨z, hb, off_back x sr s (by omega) ea⟩ (t.fewer (f x)))
        · rename_i ks eS
          split at w
          · rename_i ps e1
            obtain ⟨b2, vs, eb, z, hb, t⟩ := s.atN eS
            rw [ea] at eb; cases eb
            exact w as H' _ x.back (SR.back x sr s ok) (PR.lst ⟨z, hb, off_back x sr s (by omega) ea⟩ (frzCs_ok x sr s t e1))
          · exact w.elim
        · exact w.elim
  | rtT ds S' =>
    intro as' H' v x s ⟨a, vs, e, hT, r⟩
    subst e
    unfold gcR at w
    dsimp only at w
    split at w
    · rename_i ps e1
      refine w as H' _ x.back (SR.back x sr s ok) (PR.tup ⟨hT.1, ?_⟩ (frzDs_ok x sr s r e1))
      rcases hT.2 with ⟨e2, q⟩ | h
      · exact .inl ⟨e2, f x a q⟩
      · exact .inr h
    · exact w.elim
  | bk δ' S' => exact w.elim
  | ct δ' S' => exact w.elim
  | exc c p δ' S' =>
    intro as' H' σ' cls dd x s r ex
    refine w as H' cls dd x.back (SR.back x sr s ok) ⟨ex.1, ex.2.1, fun h => ?_⟩
    obtain ⟨d, fs, e1, e2, e3, e4⟩ := ex.2.2 h
    exact ⟨d, fs, e1, f x d e2, e3, Paired.mapP e4 fun _ _ q => ⟨q.1, PR.fewer (f x) q.2⟩⟩
  | bad => exact w
theorem er_start {M : Wd} {as : As} {H : Hp} {N : List Str} {vs : List V} {ds : List DV} (r : DVRs M as H vs ds) {n : Nat} (hn : ds.length = n) : ER M as H (L2.start N vs) (ds.map some ++ List.replicate (N.length - n) none) := by
  have hl : vs.length = ds.length := Paired.length r
  unfold L2.start
  refine ⟨by simp [hl, hn], fun i d e => ?_⟩
  by_cases hi : i < ds.length
  · rw [List.getElem?_append_left (by simpa using hi), List.getElem?_map] at e
    have hi' : i < vs.length := by omega
    rw [List.getElem?_append_left (by simpa using hi'), List.getElem?_map]
    rw [List.getElem?_eq_getElem hi] at e
    rw [List.getElem?_eq_getElem hi']
    have go : ∀ {vs : List V} {ds : List DV}, DVRs M as H vs ds → ∀ (i : Nat) (h1 : i < vs.length) (h2 : i < ds.length), DVR M as H vs[i] ds[i] := by
      intro vs ds r
      induction r with
      | nil => intro i h1; exact absurd h1 (Nat.not_lt_zero _)
      | cons h t ih =>
        intro i h1 h2
        cases i with
        | zero => exact h
        | succ i => exact ih i (Nat.lt_of_succ_lt_succ h1) (Nat.lt_of_succ_lt_succ h2)
    cases e
    exact ⟨vs[i], rfl, go r i hi' hi⟩
  · rw [List.getElem?_append_right (by simpa using hi), List.getElem?_replicate] at e
    split at e <;> cases e
section
variable {P : Program} {w : World} {K : PySem.W.Frag} {mg : Str → Option Value} {base : Heap}
/-- THE RULE for a def -/
theorem def_ok {x qual : Str} {st : Stmt} {f : Addr} {fd : FuncData} {N ps : List Str} {k : Nat} {n : Nat} {keep : Bool} {body : Sig → AH → Out} {nN : Nat} (F : Fun K x qual st f fd) (S : FnScope N ps (defScope st)) (hn : n = ps.length) (hN : nN = N.length)
    (hbody : ∀ (cdv : Value) (A : Around) (outer : List Env) (s : Shared) (H : Hp) (E : XK), Room k (A.deeper (envOfC qual (defScope st) s.heap.objs.size f cdv)) →
      Gd (cxOf (L2.CX P w) P w K mg base N qual (defScope st) f cdv A outer s H E) (fun _ => E) →
      DSs (cxOf (L2.CX P w) P w K mg base N qual (defScope st) f cdv A outer s H E) (fun _ => E) (defBody st) body) : FnOk P w K mg base (L2.CX P w) (k + 1) f fd ps (spD ⟨K, mg⟩ (dDef nN n keep body)) := by
  subst hn hN
  refine F.okX S (fun vs H Q E h => ?_) fun cdv A outer s H vs Q E hr h => ?_
  · obtain ⟨as, ds, S, sr, r, w⟩ := h
    unfold dDef at w
    split at w
    · rename_i e
      rw [← e]
      exact Paired.length r
    · exact w.elim
  · refine ⟨_, hbody cdv A outer s H E hr ⟨rfl, takes_of rfl rfl rfl rfl, passes_of rfl⟩, ?_⟩
    obtain ⟨as, ds, S, sr, r, w⟩ := h
    unfold dDef at w
    split at w
    · rename_i e
      exact ⟨as, _, S, sr, er_start r e, gc_ok sr w⟩
    · exact w.elim
end
end
end DL
namespace DL
noncomputable section
open PySem PySem.Spec PyProof.Rows L2

/-! ### x[::-1] -/
section
variable {prog : Program} {w : World} {A : Around} {E : Value → Shared → Prop} {s : Shared}
theorem applied_rev {sl : Addr} {u : Tok} {n : Nat} {Q : Int × Int × Nat → Shared → Prop} (hs : s.heap.IsSliceOf sl .none .none (.int (-1) u)) (h : Q ((n : Int) - 1, -1, n) s) :
    wpAny (model prog w) A (Builtin.Slice.sliceApplied (.ref sl) (pure (n : Int))) Q E s := by
  obtain ⟨os, hos, hcs, hds⟩ := id hs
  unfold Builtin.Slice.sliceApplied Builtin.Slice.sliceFields
  refine wpAny_bind (wpAny_bind (wpAny_field hos hds (x := .none) rfl (wpAny_bind (wpAny_field hos hds (x := .none) rfl (wpAny_bind (wpAny_field hos hds (x := .int (-1) u) rfl (wpAny_pure ?_)))))))
  refine wpAny_bind (slicePart_int ?_)
  show wpAny _ _ (if ((-1 : Int) == 0) = true then _ else _) _ _ s
  rw [if_neg (by decide)]
  refine wpAny_bind (slicePart_none (wpAny_bind (slicePart_none (wpAny_bind (wpAny_pure ?_)))))
  show wpAny _ _ (match Builtin.Slice.sliceAdjust none none (-1) (n : Int) with | (lo, hi) => pure (lo, (-1 : Int), Builtin.Slice.slicePlaces lo hi (-1))) _ _ s
  have e1 : Builtin.Slice.sliceAdjust none none (-1) (n : Int) = ((n : Int) - 1, -1) := by
    unfold Builtin.Slice.sliceAdjust
    simp
  rw [e1]
  show wpAny _ _ (pure ((n : Int) - 1, (-1 : Int), Builtin.Slice.slicePlaces ((n : Int) - 1) (-1) (-1))) _ _ s
  have e2 : Builtin.Slice.slicePlaces ((n : Int) - 1) (-1) (-1) = n := by
    unfold Builtin.Slice.slicePlaces
    have h1 : ¬ ((-1 : Int) > 0) := by decide
    rw [if_neg h1]
    by_cases hn : n = 0
    · subst hn; rw [if_neg (by decide)]; rfl
    · rw [if_pos (by omega)]
      have : ((n : Int) - 1 - -1 - 1) / - -1 + 1 = n := by
        rw [show - (-1 : Int) = 1 by decide, Int.ediv_one]; omega
      rw [this]; exact Int.toNat_natCast n
  rw [e2]
  exact wpAny_pure h
theorem pick_rev (xs : Array Value) : ((List.range xs.size).filterMap fun (m : Nat) => xs[((xs.size : Int) - 1 + (m : Int) * (-1)).toNat]?) = xs.toList.reverse := by
  have e : ∀ m, m < xs.size → xs[((xs.size : Int) - 1 + (m : Int) * (-1)).toNat]? = xs.toList.reverse[m]? := by
    intro m hm
    have h1 : ((xs.size : Int) - 1 + (m : Int) * (-1)).toNat = xs.size - 1 - m := by omega
    rw [h1, List.getElem?_reverse (by simpa using hm)]
    simp
  have gen : ∀ (l : List Value) (f : Nat → Option Value), (∀ m, m < l.length → f m = l[m]?) → (List.range l.length).filterMap f = l := by
    intro l
    induction l with
    | nil => intro f _; rfl
    | cons a l ih =>
      intro f h
      rw [List.length_cons, List.range_succ_eq_map, List.filterMap_cons, h 0 (by simp)]
      simp only [List.getElem?_cons_zero]
      rw [List.filterMap_map, ih (f ∘ Nat.succ) (fun m hm => by
        have := h (m + 1) (by simpa using hm)
        simpa using this)]
  have hl : xs.toList.reverse.length = xs.size := by simp
  rw [← hl]
  refine gen _ _ fun m hm => ?_
  rw [hl] at hm ⊢
  exact e m hm
theorem getItem_tuple_rev {t sl : Addr} {items : Array Value} {u : Tok} {Q : Value → Shared → Prop} (ht : IsTup s.heap t items) (hs : s.heap.IsSliceOf sl .none .none (.int (-1) u))
    (h : Q (.ref s.heap.objs.size) { s with heap := s.heap.push { cls := .type "tuple", data := .seq items.toList.reverse.toArray } }) (hsz : items.size ≤ sizeLine) : wpAny (model prog w) A (getItem (.ref t) (.ref sl)) Q E s := by
  have htake : sizeOk (.seq items.toList.reverse.toArray) := by
    show items.toList.reverse.toArray.size ≤ sizeLine
    rw [List.size_toArray, List.length_reverse, Array.length_toList]
    exact hsz
  obtain ⟨os, hos, hcs, hds⟩ := id hs
  have hTs : s.TypeIs (.ref sl) "slice" := ⟨os, hos, hcs⟩
  unfold getItem
  try with_reducible refine wpAny_holding ?_
  first | refine wpAny_bind (wpAny_pure ?_) | skip
  refine wpAny_bind (wpAny_sequenceKey ht.typeIs (by decide) ?_)
  refine wpAny_bind (wpAny_callSpecial?_slot (name := Str.ofString "__getitem__") ht.typeIs PyProof.Rows.slot_tuple_getitem
    (wpAny_call_entry PyProof.Rows.slot_tuple_getitem ht.typeIs entry_tuple_getitem ?_ (args_tuple_getitem _ _)))
  show wpAny _ _ (Builtin.Tuple.tupleItemsOf (.ref t) >>= _) _ _ s
  refine wpAny_bind (tupleItemsOf_ ht ?_)
  refine wpAny_bind (wpAny_typeOf hTs ?_)
  rw [if_pos (by decide)]
  refine wpAny_bind (applied_rev hs ?_)
  have hno : ¬ (((items.size : Int) - 1 == 0 && (-1 : Int) == 1 && items.size == items.size) = true) := by
    intro q
    rw [Bool.and_eq_true, Bool.and_eq_true] at q
    exact absurd q.1.2 (by decide)
  show wpAny _ _ (if ((items.size : Int) - 1 == 0 && (-1 : Int) == 1 && items.size == items.size) = true then _ else _) _ _ s
  rw [if_neg hno, pick_rev]
  first
    | exact wpAny_bind (m := Builtin.Tuple.tupleExact _) (wpAny_newObj_type (wpAny_pure ⟨_, rfl, wpAny_pure h⟩) htake)
    | exact wpAny_bind (m := Builtin.Tuple.tupleExact _) (wpAny_newObj_type (wpAny_bind (wpAny_pure (wpAny_pure ⟨_, rfl, wpAny_pure h⟩))) htake)
    | exact wpAny_bind (wpAny_bind (m := Builtin.Tuple.tupleExact _) (wpAny_newObj_type (wpAny_pure (wpAny_pure ⟨_, rfl, wpAny_pure h⟩)) htake))
    | exact wpAny_bind (wpAny_bind (m := Builtin.Tuple.tupleExact _) (wpAny_newObj_type (wpAny_pure ⟨_, rfl, wpAny_pure h⟩) htake))
end
def tRevA (K : PySem.W.Frag) (te : TE) : TE := fun σ H Q => te σ H fun x H1 => (∃ a xs, x = .ref a ∧ SqL K H1 a xs ∧ ∀ p, H1 p = none → Q (.ref p) (upd H1 p (.lst xs.reverse))) ∨ (∃ a xs, x = .ref a ∧ SqT K H1 a xs ∧ NewT H1 Q xs.reverse)
theorem pe_revA {X : Cx} {e : Expr} {te : TE} {k : Nat} {p1 p2 p3 pos : Pos} (he : PE X e te) : PE X (.Subscript e (.Slice none none (some (.UnaryOp .USub (.Constant (.int 1) k p1) p2)) p3) pos) (tRevA X.K te) := by
  refine ⟨fun pins s σ H Q I h => ?_⟩
  refine Subscript_ (thn (he.run pins s σ H _ I h) fun v s1 ⟨x, H1, I1, r1, q1⟩ => ?_)
  have hst : PO X (some (.UnaryOp .USub (.Constant (.int 1) k p1) p2)) (tPart (tUn (rU fun i => .int (-i)) (tC (.int 1)))) := po_some (pe_un un_neg pe_int)
  rcases q1 with ⟨a, xs, ex, hx, q⟩ | ⟨a, xs, ex, hx, q⟩
  · subst ex
    cases r1
    refine wpAny_Slice (thn (po_none.run pins s1 σ H1 (fun o H2 => o = none ∧ H2 = H1) I1 ⟨rfl, rfl⟩) fun vl s2 ⟨l, H2, I2, pl, el, e2⟩ => ?_)
    subst el e2
    refine thn (po_none.run pins s2 σ H2 (fun o H3 => o = none ∧ H3 = H2) I2 ⟨rfl, rfl⟩) fun vu s3 ⟨u, H3, I3, pu, eu, e3⟩ => ?_
    subst eu e3
    refine thn (hst.run pins s3 σ H3 (fun o H4 => o = some (-1) ∧ H4 = H3) I3 ⟨1, rfl, -1, rfl, rfl, rfl⟩) fun vs s4 ⟨o, H4, I4, ps, eo, e4⟩ => ?_
    subst eo e4
    have I5 : Inv X pins σ H4 { s4 with heap := s4.heap.push { cls := .type "slice", data := .fields #[vl, vu, vs] } } := I4.kept (t' := s4.toks) fun b ob q => Heap.get?_push_of_some _ q
    obtain ⟨its, r, ht, hz⟩ := I5.list hx
    have hlen := r.length
    show wpAny (model X.prog X.w) X.A (subscriptTail e (.Slice none none (some (.UnaryOp .USub (.Constant (.int 1) k p1) p2)) p3) (.ref a) (.ref s4.heap.objs.size)) (EP X pins σ Q) X.xe { s4 with heap := s4.heap.push { cls := .type "slice", data := .fields #[vl, vu, vs] } }
    refine tail_any (ops := [.ref a, .ref s4.heap.objs.size]) ht.isList.typeIs (PySem.slot_list_getitem.lookup) ?_ (by with_unfolding_all rfl)
    refine wpAny_getItem_list_slice ht.isList (Heap.IsSliceOf.new _ vl vu vs) pl pu ps (by decide) ?_ (by rw [List.size_toArray]; omega)
    rw [PySem.W.krv_pick]
    refine ⟨.ref _, _, I5.laid (t' := s4.toks) (o := .lst xs.reverse) (fun b ob q => Heap.get?_push_of_some _ q) (Nat.le_refl _) ?_, rfl, q _ (I5.hok.fresh (Nat.le_refl _))⟩
    exact ⟨by rw [List.length_reverse]; exact hz, _, 0, r.reverse, Heap.get?_push_size _ rfl⟩
  · subst ex
    cases r1
    refine wpAny_Slice (thn (po_none.run pins s1 σ H1 (fun o H2 => o = none ∧ H2 = H1) I1 ⟨rfl, rfl⟩) fun vl s2 ⟨l, H2, I2, pl, el, e2⟩ => ?_)
    subst el e2
    refine thn (po_none.run pins s2 σ H2 (fun o H3 => o = none ∧ H3 = H2) I2 ⟨rfl, rfl⟩) fun vu s3 ⟨u, H3, I3, pu, eu, e3⟩ => ?_
    subst eu e3
    refine thn (hst.run pins s3 σ H3 (fun o H4 => o = some (-1) ∧ H4 = H3) I3 ⟨1, rfl, -1, rfl, rfl, rfl⟩) fun vs s4 ⟨o, H4, I4, ps, eo, e4⟩ => ?_
    subst eo e4
    have I5 : Inv X pins σ H4 { s4 with heap := s4.heap.push { cls := .type "slice", data := .fields #[vl, vu, vs] } } := I4.kept (t' := s4.toks) fun b ob q => Heap.get?_push_of_some _ q
    obtain ⟨its, r, ht, hz⟩ := I5.tuple hx
    have hlen := r.length
    cases pl
    cases pu
    obtain ⟨t5, rfl⟩ : ∃ t, vs = Value.int (-1) t := by cases ps; exact ⟨_, rfl⟩
    show wpAny (model X.prog X.w) X.A (subscriptTail e (.Slice none none (some (.UnaryOp .USub (.Constant (.int 1) k p1) p2)) p3) (.ref a) (.ref s4.heap.objs.size)) (EP X pins σ Q) X.xe _
    refine tail_any (ops := [.ref a, .ref s4.heap.objs.size]) ht.typeIs (PyProof.Rows.slot_tuple_getitem.lookup) ?_ (by with_unfolding_all rfl)
    refine getItem_tuple_rev ht (Heap.IsSliceOf.new _ .none .none _) ?_ (by rw [List.size_toArray]; omega)
    exact lay_tup I5 (by rw [List.length_reverse]; exact hz) r.reverse q
def revO : Op1 := fun a S => match a with
  | .p (.tup xs) => some (.p (.tup xs.reverse), S)
  | _ => match litems a S with
    | some xs => some (.p (.lst xs.reverse), S)
    | none => none
section
variable {X : Cx} {E : L2.St → XK} {a : Expr} {k : Nat} {p1 p2 p3 pos : Pos} {fa : Sig → AH → Res DV}
theorem de_rev (ha : DE X E a fa) : DE X E (.Subscript a (.Slice none none (some (.UnaryOp .USub (.Constant (.int 1) k p1) p2)) p3) pos) (dUn revO fa) := (pe_revA ha).imp fun σ H Q ⟨as, δ, S, sr, er, w⟩ =>
  ⟨as, δ, S, sr, er, w.bind.mono fun _ _ _ _ _ _ _ _ _ ⟨as1, S1, d1, _, x1, s1, r1, w1⟩ => by
    unfold revO at w1
    split at w1
    · cases r1 with
      | tup h t => exact .inr ⟨_, _, rfl, h.sq, WO.tup (ps := _) (S := S1) (fun as' H' b => w1 as' H' b) s1 (by rw [List.length_reverse]; exact h.1) t.reverse⟩
    · split at w1
      · rename_i xs e
        obtain ⟨a, vs, rfl, z, q, t⟩ := litems_sq s1 r1 e
        exact .inl ⟨_, _, rfl, q, fun p n => WO.lst (ps := _) (S := S1) (fun as' H' b => w1 as' H' b) s1 (by rw [List.length_reverse]; exact z) t.reverse n⟩
      · exact w1.elim⟩
end

/-! ### methods of lists -/
abbrev OpM := DV → List DV → AH → Option (DV × AH)
def rMD (M : Wd) (o : OpM) : V → List V → Hp → VK → Prop := fun x vs H Q => ∃ as S d ds, SR M as H S ∧ DVR M as H x d ∧ DVRs M as H vs ds ∧ WO M as H (o d ds S) Q
def isLst (d : DV) (S : AH) : Bool := (litems d S).isSome || (nitems d S).isSome
theorem isLst_sq {M : Wd} {as : As} {H : Hp} {S : AH} {d : DV} {v : V} (h : SR M as H S) (r : DVR M as H v d) (e : isLst d S = true) : ∃ a vs, v = .ref a ∧ SqL M.K H a vs := by
  unfold isLst at e
  rcases Bool.or_eq_true_iff.mp e with e | e
  · obtain ⟨xs, e1⟩ := Option.isSome_iff_exists.mp e
    obtain ⟨a, vs, rfl, z, q, t⟩ := litems_sq h r e1
    exact ⟨a, vs, rfl, q⟩
  · obtain ⟨xs, e1⟩ := Option.isSome_iff_exists.mp e
    obtain ⟨a, vs, rfl, z, q, t⟩ := nitems_sq h r e1
    exact ⟨a, vs, rfl, .of q⟩
def dMeth (o : OpM) (fo : Sig → AH → Res DV) (fs : Sig → AH → Res (List DV)) : Sig → AH → Res DV := fun δ S => (fo δ S).bind fun d S => if isLst d S = true then (fs δ S).bind fun ds S => lift (o d ds S) else .bad
def dMeth0 (o : OpM) (fo : Sig → AH → Res DV) : Sig → AH → Res DV := fun δ S => (fo δ S).bind fun d S => if isLst d S = true then lift (o d [] S) else .bad
section
variable {X : Cx} {E : L2.St → XK} {ob e : Expr} {es : List Expr} {name : Str} {id : String} {apos cpos : Pos} {o : OpM} {fo : Sig → AH → Res DV} {fs : Sig → AH → Res (List DV)}
theorem de_meth (slot : Slot "list" name id) (hty : typeOf (.builtin id) = pure (.type "method_descriptor")) (hm : MtR X id (rMD (wd X) o)) (ho : DE X E ob fo) (ha : DA X E (e :: es) fs)
    (hbase : attributeBase ob name X.env (eval ob X.env) = eval ob X.env := by rfl)
    (hfew : ((backTo cpos (starEach (e :: es) X.env)).all (fun x => !x.1) && (backToKw cpos (keywordEach [] X.env)).all (fun x => x.1.isSome)
      && decide ((e :: es).length + ([] : List Keyword).length + (if ([] : List Keyword).isEmpty then 0 else 1) < 30)) = true := by rfl)
    (hline : (apos.endLine == cpos.line) = true := by rfl) (hs : starEach (e :: es) X.env = (false, eval e X.env) :: starEach es X.env := by rfl) (hplain : (backTo cpos (starEach es X.env)).any (·.1) = false := by rfl) :
    DE X E (.Call (.Attribute ob name apos) (e :: es) [] cpos) (dMeth o fo fs) := (pe_bm PySem.F.plainAttrs_list slot hty hm ho ha hbase hfew hline hs hplain).imp fun σ H Q ⟨as, δ, S, sr, er, w⟩ =>
  ⟨as, δ, S, sr, er, w.bind.mono fun _ _ _ _ _ _ _ _ _ ⟨as1, S1, d1, _, x1, s1, r1, w1⟩ => by
    split at w1
    · rename_i e1
      obtain ⟨a, vs, rfl, q⟩ := isLst_sq s1 r1 e1
      exact ⟨.inl ⟨rfl, _, q⟩, as1, δ, S1, s1, er.mono x1.w, w1.bind.mono fun _ _ _ _ _ _ _ _ _ ⟨as2, S2, d2, _, x2, s2, r2, w2⟩ => ⟨as2, S2, d1, d2, s2, r1.mono x2.w, r2, w2.wo⟩⟩
    · exact w1.elim⟩
theorem de_meth0 (slot : Slot "list" name id) (hty : typeOf (.builtin id) = pure (.type "method_descriptor")) (hm : MtR X id (rMD (wd X) o)) (ho : DE X E ob fo)
    (hbase : attributeBase ob name X.env (eval ob X.env) = eval ob X.env := by rfl) (hline : (apos.endLine == cpos.line) = true := by rfl) :
    DE X E (.Call (.Attribute ob name apos) [] [] cpos) (dMeth0 o fo) := (pe_bm0 PySem.F.plainAttrs_list slot hty hm ho hbase hline).imp fun σ H Q ⟨as, δ, S, sr, er, w⟩ =>
  ⟨as, δ, S, sr, er, w.bind.mono fun _ _ _ _ _ _ _ _ _ ⟨as1, S1, d1, _, x1, s1, r1, w1⟩ => by
    split at w1
    · rename_i e1
      obtain ⟨a, vs, rfl, q⟩ := isLst_sq s1 r1 e1
      exact ⟨.inl ⟨rfl, _, q⟩, as1, S1, d1, [], s1, r1, .nil, w1.wo⟩
    · exact w1.elim⟩
end
def appendM : OpM := fun d ds S => match d, ds with
  | .c n, [.p x] => match S[n]? with
    | some (.lst xs) => if xs.length < 16777216 then some (.p .non, S.set n (.lst (xs ++ [x]))) else none
    | _ => none
  | .c n, [.c k] => match S[n]? with
    | some (.nst ks) => if ks.length < 16777216 then some (.p .non, S.set n (.nst (ks ++ [k]))) else none
    | _ => none
  | _, _ => none
def popM : OpM := fun d ds S => match d, ds with
  | .c n, [] => match S[n]? with
    | some (.lst xs) => match xs[xs.length - 1]? with
      | some y => some (.p y, S.set n (.lst xs.dropLast))
      | none => none
    | _ => none
  | .c n, [.p (.int i)] => match S[n]? with
    | some (.lst xs) => if 0 ≤ i ∧ i < 1000000 then match xs[i.toNat]? with
        | some y => some (.p y, S.set n (.lst (xs.eraseIdx i.toNat)))
        | none => none
      else none
    | _ => none
  | _, _ => none
theorem PRs.eraseIdx {M : Wd} {as : As} {H : Hp} : ∀ {vs : List V} {ps : List PV} (i : Nat), PRs M as H vs ps → PRs M as H (vs.eraseIdx i) (ps.eraseIdx i)
  | _, _, _, .nil => .nil
  | _, _, 0, .cons _ t => t
  | _, _, i + 1, .cons r t => .cons r (PRs.eraseIdx i t)
/-- xs.remove(k) of numbers: the first one -/
def remM : OpM := fun d ds S => match d, ds with
  | .c n, [.p (.int k)] => match S[n]? with
    | some (.lst xs) => match intsOf xs with
      | some ns => if k ∈ ns then some (.p .non, S.set n (.lst ((ns.erase k).map PV.int))) else none
      | none => none
    | _ => none
  | _, _ => none
def cntM : OpM := fun d ds S => match ds with
  | [.p (.int k)] => match (litems d S).bind intsOf with
    | some ns => some (.p (.int (ns.count k : Nat)), S)
    | none => none
  | _ => none
def idxM : OpM := fun d ds S => match ds with
  | [.p (.int k)] => match (litems d S).bind intsOf with
    | some ns => if k ∈ ns then some (.p (.int (ns.idxOf k : Nat)), S) else none
    | none => none
  | _ => none
theorem idxOf_first : ∀ (ns : List Int) (k : Int) (m : Nat), m < ns.idxOf k → ns[m]? ≠ some k
  | [], _, _, h => by simp at h
  | a :: r, k, m, h => by
    rw [List.idxOf_cons] at h
    by_cases e : a = k
    · subst e; simp at h
    · have e' : (a == k) = false := beq_eq_false_iff_ne.mpr e
      rw [e'] at h
      simp only [cond_false] at h
      cases m with
      | zero => simpa using e
      | succ m =>
        rw [List.getElem?_cons_succ]
        exact idxOf_first r k m (by omega)
section
variable {X : Cx}
theorem ow_append : MtR X "list.append" (rMD (wd X) appendM) := by
  intro pins s σ H x vs v us Q I rx rv h
  obtain ⟨as, S, d, ds, sr, r1, r2, w⟩ := h
  unfold appendM at w
  split at w
  · obtain ⟨a, ea, rfl⟩ := r1
    obtain ⟨y, rfl, ry⟩ := DVRs.one r2
    split at w
    · rename_i xs e
      split at w
      · rename_i hz
        obtain ⟨b, ws, eb, z, hb, t⟩ := sr.at e
        rw [ea] at eb; cases eb
        have hl := t.length
        have hs : sizeLine = 16777216 := by decide
        have z2 : (ws ++ [y]).length ≤ sizeLine := by rw [List.length_append, List.length_singleton]; omega
        exact mt_append pins s σ H _ _ v us Q I rx rv ⟨_, _, _, rfl, rfl, hb, by omega, w as _ _ (ext_write sr ea hb) (sr.write ea hb z2 (t.append (.cons ry .nil))) .non⟩
      · exact w.elim
    · exact w.elim
  · obtain ⟨a, ea, rfl⟩ := r1
    obtain ⟨y, rfl, ry⟩ := DVRs.one r2
    split at w
    · rename_i ks e
      split at w
      · rename_i hz
        obtain ⟨b, ws, eb, z, hb, t⟩ := sr.atN e
        rw [ea] at eb; cases eb
        have hl := t.length
        have hs : sizeLine = 16777216 := by decide
        have z2 : (ws ++ [y]).length ≤ sizeLine := by rw [List.length_append, List.length_singleton]; omega
        exact mt_append pins s σ H _ _ v us Q I rx rv ⟨_, _, _, rfl, rfl, hb, by omega, w as _ _ (ext_write sr ea hb) (sr.writeNest ea hb z2 (t.append (.cons ry .nil))) .non⟩
      · exact w.elim
    · exact w.elim
  · exact w.elim
theorem ow_pop : MtR X "list.pop" (rMD (wd X) popM) := by
  intro pins s σ H x vs v us Q I rx rv h
  obtain ⟨as, S, d, ds, sr, r1, r2, w⟩ := h
  unfold popM at w
  split at w
  · obtain ⟨a, ea, rfl⟩ := r1
    cases r2
    split at w
    · rename_i xs e
      split at w
      · rename_i y ey
        obtain ⟨b, ws, eb, z, hb, t⟩ := sr.at e
        rw [ea] at eb; cases eb
        obtain ⟨yv, e2, r3⟩ := t.get ey
        rw [← t.length] at e2
        have z2 : ws.dropLast.length ≤ sizeLine := by rw [List.length_dropLast]; omega
        have x := ext_write (o := .lst ws.dropLast) sr ea hb
        exact mt_pop pins s σ H _ _ v us Q I rx rv ⟨_, _, _, rfl, rfl, hb, e2, w as _ _ x (sr.write ea hb z2 t.dropLast) (PR.mono x.w r3)⟩
      · exact w.elim
    · exact w.elim
  · obtain ⟨a, ea, rfl⟩ := r1
    obtain ⟨y, rfl, ry⟩ := DVRs.one r2
    cases ry
    rename_i i
    split at w
    · rename_i xs e
      split at w
      · rename_i hi
        split at w
        · rename_i y ey
          obtain ⟨b, ws, eb, z, hb, t⟩ := sr.at e
          rw [ea] at eb; cases eb
          obtain ⟨yv, e2, r3⟩ := t.get ey
          have hlt := (List.getElem?_eq_some_iff.mp e2).1
          have x := ext_write (o := .lst (ws.eraseIdx i.toNat)) sr ea hb
          exact mt_popAt pins s σ H _ _ v us Q I rx rv ⟨_, _, _, _, _, rfl, rfl, hb, by omega, by omega, seqIndex_of hi.1 (by omega), e2, w as _ _ x (sr.write ea hb (Nat.le_trans (L2.len_erase _ _) z) (t.eraseIdx _)) (PR.mono x.w r3)⟩
        · exact w.elim
      · exact w.elim
    · exact w.elim
  · exact w.elim
theorem ow_remove : MtR X "list.remove" (rMD (wd X) remM) := by
  intro pins s σ H x vs v us Q I rx rv h
  obtain ⟨as, S, d, ds, sr, r1, r2, w⟩ := h
  unfold remM at w
  split at w
  · obtain ⟨a, ea, rfl⟩ := r1
    obtain ⟨y, rfl, ry⟩ := DVRs.one r2
    cases ry
    rename_i k
    split at w
    · rename_i xs e
      split at w
      · rename_i ns en
        split at w
        · rename_i hk
          obtain ⟨b, ws, eb, z, hb, t⟩ := sr.at e
          rw [ea] at eb; cases eb
          rw [intsOf_ok en] at t
          rw [t.ints] at hb z
          have hlt := List.idxOf_lt_length_iff.mpr hk
          have e1 : ns[ns.idxOf k]? = some k := by
            rw [List.getElem?_eq_getElem hlt, List.getElem_idxOf hlt]
          rw [List.erase_eq_eraseIdx_of_idxOf rfl] at w
          refine mt_remove pins s σ H _ _ v us Q I rx rv ⟨_, ns, _, _, rfl, rfl, hb, e1, fun m hm q => ?_, w as _ _ (ext_write sr ea hb) (sr.write ea hb ?_ (PRs.of_ints _)) .non⟩
          · exact idxOf_first ns k m hm q
          · rw [List.length_map] at z ⊢
            exact Nat.le_trans (L2.len_erase _ _) z
        · exact w.elim
      · exact w.elim
    · exact w.elim
  · exact w.elim
theorem ow_count : MtR X "list.count" (rMD (wd X) cntM) := by
  intro pins s σ H x vs v us Q I rx rv h
  obtain ⟨as, S, d, ds, sr, r1, r2, w⟩ := h
  unfold cntM at w
  split at w
  · obtain ⟨y, rfl, ry⟩ := DVRs.one r2
    cases ry
    split at w
    · rename_i ns e
      simp only [Option.bind_eq_some_iff] at e
      obtain ⟨xs, e1, e2⟩ := e
      obtain ⟨a, ws, rfl, z, q, t⟩ := litems_sq sr r1 e1
      rw [intsOf_ok e2] at t
      rw [t.ints] at q
      exact mt_lcount pins s σ H _ _ v us Q I rx rv ⟨_, ns, _, rfl, rfl, q, w.here sr (.int _)⟩
    · exact w.elim
  · exact w.elim
end
end
end DL
namespace DL
noncomputable section
open PySem PySem.Spec PyProof.Rows L2

abbrev ltO : Op2 := cmpO fun i j => decide (i < j)
abbrev leO : Op2 := cmpO fun i j => decide (i ≤ j)
abbrev gtO : Op2 := cmpO fun i j => decide (j < i)
abbrev geO : Op2 := cmpO fun i j => decide (j ≤ i)
theorem b_len : bootBuiltins "len" = some (.builtin "len") := by decide +kernel
theorem b_abs : bootBuiltins "abs" = some (.builtin "abs") := by decide +kernel
theorem b_sum : bootBuiltins "sum" = some (.builtin "sum") := by decide +kernel
theorem b_all : bootBuiltins "all" = some (.builtin "all") := by decide +kernel
theorem b_any : bootBuiltins "any" = some (.builtin "any") := by decide +kernel
theorem b_min : bootBuiltins "min" = some (.builtin "min") := by decide +kernel
theorem b_max : bootBuiltins "max" = some (.builtin "max") := by decide +kernel
theorem b_sorted : bootBuiltins "sorted" = some (.builtin "sorted") := by decide +kernel
theorem b_int : bootBuiltins "int" = some (.type "int") := by decide +kernel
theorem b_bool : bootBuiltins "bool" = some (.type "bool") := by decide +kernel
theorem b_str : bootBuiltins "str" = some (.type "str") := by decide +kernel
theorem b_tuple : bootBuiltins "tuple" = some (.type "tuple") := by decide +kernel
theorem b_list : bootBuiltins "list" = some (.type "list") := by decide +kernel
section
variable {P : Program} {w : World} {K : PySem.W.Frag} {mg : Str → Option Value} {base : Heap} {CX : CXT}
theorem fn_bad {k : Nat} {f : Addr} {fd : FuncData} {ps : List Str} {B : Wd} : FnOk P w K mg base CX k f fd ps (spD B fun _ _ => .bad) := by
  have no : ∀ vs H Q E, ¬ spD B (fun _ _ => .bad) vs H Q E := fun vs H Q E ⟨_, _, _, _, _, h⟩ => h
  exact ⟨fun vs H Q E h => absurd h (no vs H Q E), fun A outer s H args us vs Q E _ _ _ _ h => absurd h (no vs H Q E)⟩
end
/-- what the law's def is to promise -/
def spLawD (K : PySem.W.Frag) : Sp := fun vs H Q E => ∃ (a : Addr) (ns : List Int), vs = [.ref a] ∧ Only H ∧ SqL K H a (ns.map V.int) ∧ ns.length ≤ 63 ∧ ∀ H', Q (.bl true) H'
theorem law_end {K : PySem.W.Frag} {mg : Str → Option Value} {F : List DV → AH → Res DV} (ht : ∀ ns : List Int, ns.length ≤ 63 → ∃ S, F [.p (.fro (ns.map PV.int))] [] = .ok (.p (.bl true)) S)
    {vs : List V} {H : Hp} {Q : VK} {E : XK} (h : spLawD K vs H Q E) : spD ⟨K, mg⟩ F vs H Q E := by
  obtain ⟨a, ns, rfl, hO, hS, h63, q⟩ := h
  obtain ⟨S, e⟩ := ht ns h63
  have z : (ns.map V.int).length ≤ sizeLine := by rw [List.length_map]; exact Nat.le_trans h63 (by decide)
  have r : RdF K ⟨[], fun _ => False⟩ H a (ns.map V.int) := by
    refine ⟨z, ?_⟩
    rcases hS with (hS | ⟨o, hS⟩) | hS
    · rcases hO a with n | ⟨o, xs, n⟩
      · rw [n] at hS; cases hS
      · rw [n] at hS; cases hS
    · exact .inl ⟨⟨o, hS⟩, (by simp), fun z => z⟩
    · exact .inr hS
  refine ⟨⟨[], fun _ => False⟩, [.p (.fro (ns.map PV.int))], [], ⟨rfl, List.nodup_nil, (fun _ _ z => z), (fun _ z => z.elim), fun i a c e1 _ => by simp at e1⟩, .cons (.fro (M := ⟨K, mg⟩) r (PRs.of_ints ns)) .nil, ?_⟩
  rw [e]
  intro as' H' b x s rr
  cases rr
  exact q H'
theorem walkD {l : PySem.W.OpenLaw} {k : Nat} {q : Program} {loose : List Str} {XP : (Str → Option Value) → Heap → Prop} {YP : World → Heap → Prop} {d : DefRec} {K : Params → PySem.W.Frag} (hn : l.most = some 63) (hdf : d.params.defaults = []) (hr : Room k callerA)
    (hY : ∀ (w : World) (h : Heap), YP w h → (K w.params).In h)
    (F : ∀ (w : World) (mg : Str → Option Value) (fa : Addr) (h : Heap), (K w.params).In h → h.Ns mainGlobals mg → mg d.name = some (.ref fa) →
      ∃ fd : FuncData, (∀ (s : Shared) (u : Value), BindsTo s fd ⟨[u], []⟩ [("script", u)]) ∧ ∀ base : Heap, FnOk l.prog w (K w.params) mg base (L2.CX l.prog w) k fa fd ["script"] (spLawD (K w.params))) :
    PySem.W.WalkO q loose XP YP l.row.toRowW d [] (fun f vs => PySem.call f vs) :=
  L2.walk_of (n := 63) (k := k) (x := "script") (CX := fun w => L2.CX l.prog w) (sp := fun w => spLawD (K w.params)) hn (by decide) hdf hr hY
    (fun w mg fa h KX G hm => let ⟨fd, hb, hF⟩ := F w mg fa h KX G hm; ⟨fd, hb, fun base _ _ => hF base⟩)
    (fun w H a ns hl hO hS => ⟨a, ns, rfl, hO, hS, hl, fun _ => rfl⟩)
    fun w H s e s' h => by
      obtain ⟨_, _, _, _, _, _, _, _, _, _, _, _, z⟩ := h
      exact z
/-- a class is caught by its own name -/
theorem sub_ok {K : PySem.W.Frag} {C : Addr} {x n : Str} {b : Bool} {cls : Value} {mg : Str → Option Value} (i : PySem.W.isClsIn K C = true) (t : PySem.W.typeIn K (.ref C) = some (.type "type")) (bb : PySem.W.subIn K (.ref C) (.type "BaseException") = some true) (s : PySem.W.subIn K (.ref C) (.ref C) = some true)
    (m : mg x = some (.ref C)) (hs : (if n = x then some true else none) = some b) (hm : mg n = some cls) : PySem.W.exmOne K cls (.ref C) = some b := by
  split at hs
  · rename_i e
    subst e
    cases hs
    rw [m] at hm
    cases hm
    have k1 : (PySem.W.subIn K (.ref C) (.type "BaseException") == some true) = true := by rw [bb] <;> rfl
    have k3 : (PySem.W.clsIn K C).isSome = true := i
    have k2 : ((PySem.W.clsIn K C).isSome && PySem.W.typeIn K (.ref C) == some (.type "type")) = true := by rw [k3, t] <;> rfl
    unfold PySem.W.exmOne PySem.W.kitCls
    simp only [k1, k2, if_true, s]
  · cases hs
end
end DL
namespace DL
noncomputable section
open PySem L2

/-! ### evaluation by simp: continuations as constants, so that nothing is looked at ahead of its turn -/
section
variable {α : Type} {δ : Sig} {S : AH} {fa fb fc : Sig → AH → Res DV} {ga gb : Sig → AH → Res Bool} {fs : Sig → AH → Res (List DV)} {fl : Sig → AH → Res (List PV)} {f g : Sig → AH → Out}
def vget (o : Option (Option DV)) (S : AH) : Res DV := match o with
  | some (some d) => .ok d S
  | _ => .bad
@[simp] theorem vget_some {d : DV} : vget (some (some d)) S = .ok d S := (rfl)
@[simp] theorem ev_var {i : Nat} : dVar i δ S = vget δ[i]? S := by
  unfold dVar vget
  rfl
@[simp] theorem ev_con {v : PV} : dC v δ S = .ok (.p v) S := (rfl)
def kUn (o : Op1) (a : DV) (S : AH) : Res DV := lift (o a S)
@[simp] theorem ev_un {o : Op1} : dUn o fa δ S = (fa δ S).bind (kUn o) := (rfl)
@[simp] theorem ev_kUn {o : Op1} {a : DV} : kUn o a S = lift (o a S) := (rfl)
def kBin (o : Op2) (fb : Sig → AH → Res DV) (δ : Sig) (a : DV) (S : AH) : Res DV := (fb δ S).bind fun b S => lift (o a b S)
def kBin2 (o : Op2) (a b : DV) (S : AH) : Res DV := lift (o a b S)
@[simp] theorem ev_bin {o : Op2} : dBin o fa fb δ S = (fa δ S).bind (kBin o fb δ) := (rfl)
@[simp] theorem ev_kBin {o : Op2} {a : DV} : kBin o fb δ a S = (fb δ S).bind (kBin2 o a) := (rfl)
@[simp] theorem ev_kBin2 {o : Op2} {a b : DV} : kBin2 o a b S = lift (o a b S) := (rfl)
@[simp] theorem ev_nil : dNil δ S = .ok [] S := (rfl)
def kCons (fr : Sig → AH → Res (List DV)) (δ : Sig) (a : DV) (S : AH) : Res (List DV) := (fr δ S).bind fun r S => .ok (a :: r) S
def kCons2 (a : DV) (r : List DV) (S : AH) : Res (List DV) := .ok (a :: r) S
@[simp] theorem ev_cons : dCons fa fs δ S = (fa δ S).bind (kCons fs δ) := (rfl)
@[simp] theorem ev_kCons {a : DV} : kCons fs δ a S = (fs δ S).bind (kCons2 a) := (rfl)
@[simp] theorem ev_kCons2 {a : DV} {r : List DV} : kCons2 a r S = .ok (a :: r) S := (rfl)
def kApp (o : OpN) (ds : List DV) (S : AH) : Res DV := lift (o ds S)
@[simp] theorem ev_app {o : OpN} : dApp o fs δ S = (fs δ S).bind (kApp o) := (rfl)
@[simp] theorem ev_kApp {o : OpN} {ds : List DV} : kApp o ds S = lift (o ds S) := (rfl)
def kTru (a : DV) (S : AH) : Res Bool := lift ((truD a S).map fun k => (k, S))
@[simp] theorem ev_tru : dTru fa δ S = (fa δ S).bind kTru := (rfl)
@[simp] theorem ev_kTru_bl {b : Bool} : kTru (.p (.bl b)) S = .ok b S := (rfl)
@[simp] theorem ev_kTru_int {i : Int} : kTru (.p (.int i)) S = .ok (i != 0) S := (rfl)
@[simp] theorem ev_kTru_non : kTru (.p .non) S = .ok false S := (rfl)
def kNot (a : Bool) (S : AH) : Res Bool := .ok (!a) S
@[simp] theorem ev_not : dNot ga δ S = (ga δ S).bind kNot := (rfl)
@[simp] theorem ev_kNot {a : Bool} : kNot a S = .ok (!a) S := (rfl)
def kAnd (gb : Sig → AH → Res Bool) (δ : Sig) (a : Bool) (S : AH) : Res Bool := if a = true then gb δ S else .ok false S
def kOr (gb : Sig → AH → Res Bool) (δ : Sig) (a : Bool) (S : AH) : Res Bool := if a = true then .ok true S else gb δ S
@[simp] theorem ev_and : dAnd ga gb δ S = (ga δ S).bind (kAnd gb δ) := (rfl)
@[simp] theorem ev_or : dOr ga gb δ S = (ga δ S).bind (kOr gb δ) := (rfl)
@[simp] theorem ev_kAnd_t : kAnd gb δ true S = gb δ S := (rfl)
@[simp] theorem ev_kAnd_f : kAnd gb δ false S = .ok false S := (rfl)
@[simp] theorem ev_kOr_t : kOr gb δ true S = .ok true S := (rfl)
@[simp] theorem ev_kOr_f : kOr gb δ false S = gb δ S := (rfl)
def kAndV (fb : Sig → AH → Res DV) (δ : Sig) (a : DV) (S : AH) : Res DV := match truD a S with
  | some k => if k = true then fb δ S else .ok a S
  | none => .bad
def kOrV (fb : Sig → AH → Res DV) (δ : Sig) (a : DV) (S : AH) : Res DV := match truD a S with
  | some k => if k = true then .ok a S else fb δ S
  | none => .bad
@[simp] theorem ev_andV : dAndV fa fb δ S = (fa δ S).bind (kAndV fb δ) := (rfl)
@[simp] theorem ev_orV : dOrV fa fb δ S = (fa δ S).bind (kOrV fb δ) := (rfl)
@[simp] theorem ev_kAndV_t : kAndV fb δ (.p (.bl true)) S = fb δ S := (rfl)
@[simp] theorem ev_kAndV_f : kAndV fb δ (.p (.bl false)) S = .ok (.p (.bl false)) S := (rfl)
@[simp] theorem ev_kOrV_t : kOrV fb δ (.p (.bl true)) S = .ok (.p (.bl true)) S := (rfl)
@[simp] theorem ev_kOrV_f : kOrV fb δ (.p (.bl false)) S = fb δ S := (rfl)
def kNotV (a : DV) (S : AH) : Res DV := lift ((truD a S).map fun k => (.p (.bl (!k)), S))
@[simp] theorem ev_notV : dNotV fa δ S = (fa δ S).bind kNotV := (rfl)
@[simp] theorem ev_kNotV {b : Bool} : kNotV (.p (.bl b)) S = .ok (.p (.bl (!b))) S := (rfl)
def kIte (fa fb : Sig → AH → Res DV) (δ : Sig) (c : Bool) (S : AH) : Res DV := if c = true then fa δ S else fb δ S
@[simp] theorem ev_ite : dIte ga fa fb δ S = (ga δ S).bind (kIte fa fb δ) := (rfl)
@[simp] theorem ev_kIte_t : kIte fa fb δ true S = fa δ S := (rfl)
@[simp] theorem ev_kIte_f : kIte fa fb δ false S = fb δ S := (rfl)
def kCh3 (o' : Op2) (b c : DV) (S : AH) : Res DV := lift (o' b c S)
def kCh2 (o' : Op2) (fc : Sig → AH → Res DV) (δ : Sig) (b k : DV) (S : AH) : Res DV := match k with
  | .p (.bl true) => (fc δ S).bind (kCh3 o' b)
  | .p (.bl false) => .ok (.p (.bl false)) S
  | _ => .bad
def kCh1 (o o' : Op2) (fc : Sig → AH → Res DV) (δ : Sig) (a b : DV) (S : AH) : Res DV := (lift (o a b S)).bind (kCh2 o' fc δ b)
def kCh (o o' : Op2) (fb fc : Sig → AH → Res DV) (δ : Sig) (a : DV) (S : AH) : Res DV := (fb δ S).bind (kCh1 o o' fc δ a)
@[simp] theorem ev_chain {o o' : Op2} : dChain o o' fa fb fc δ S = (fa δ S).bind (kCh o o' fb fc δ) := (rfl)
@[simp] theorem ev_kCh {o o' : Op2} {a : DV} : kCh o o' fb fc δ a S = (fb δ S).bind (kCh1 o o' fc δ a) := (rfl)
@[simp] theorem ev_kCh1 {o o' : Op2} {a b : DV} : kCh1 o o' fc δ a b S = (lift (o a b S)).bind (kCh2 o' fc δ b) := (rfl)
@[simp] theorem ev_kCh2_t {o' : Op2} {b : DV} : kCh2 o' fc δ b (.p (.bl true)) S = (fc δ S).bind (kCh3 o' b) := (rfl)
@[simp] theorem ev_kCh2_f {o' : Op2} {b : DV} : kCh2 o' fc δ b (.p (.bl false)) S = .ok (.p (.bl false)) S := (rfl)
@[simp] theorem ev_kCh3 {o' : Op2} {b c : DV} : kCh3 o' b c S = lift (o' b c S) := (rfl)
def kBl (a : DV) (S : AH) : Res Bool := match a with
  | .p (.bl k) => .ok k S
  | _ => .bad
@[simp] theorem ev_blOf : blOf fa δ S = (fa δ S).bind kBl := (rfl)
@[simp] theorem ev_kBl {b : Bool} : kBl (.p (.bl b)) S = .ok b S := (rfl)
def kTup (ds : List DV) (S : AH) : Res DV := match pvs ds with
  | some ps => if ps.length ≤ 1000 then .ok (.p (.tup ps)) S else .bad
  | none => .bad
@[simp] theorem ev_tup : dTup fs δ S = (fs δ S).bind DL.kTup := (rfl)
def kLst (ds : List DV) (S : AH) : Res (List PV) := match pvs ds with
  | some ps => if ps.length ≤ 1000 then .ok ps S else .bad
  | none => .bad
@[simp] theorem ev_lst : dLst fs δ S = (fs δ S).bind kLst := (rfl)
def kVal (ps : List PV) (S : AH) : Res DV := .ok (.p (.lst ps)) S
@[simp] theorem ev_val : dVal fl δ S = (fl δ S).bind kVal := (rfl)
@[simp] theorem ev_kVal {ps : List PV} : kVal ps S = .ok (.p (.lst ps)) S := (rfl)
def kCell (ps : List PV) (S : AH) : Res DV := .ok (.c S.length) (S ++ [.lst ps])
@[simp] theorem ev_cell : dCell fl δ S = (fl δ S).bind kCell := (rfl)
@[simp] theorem ev_kCell {ps : List PV} : kCell ps S = .ok (.c S.length) (S ++ [.lst ps]) := (rfl)
@[simp] theorem ev_noPart : dNoPart δ S = .ok none S := (rfl)
def kPart (a : DV) (S : AH) : Res (Option Int) := match a with
  | .p (.int i) => .ok (some i) S
  | _ => .bad
@[simp] theorem ev_part : dPart fa δ S = (fa δ S).bind kPart := (rfl)
@[simp] theorem ev_kPart {i : Int} : kPart (.p (.int i)) S = .ok (some i) S := (rfl)
def kSl3 (a : DV) (l h : Option Int) (S : AH) : Res DV := lift (slO a l h S)
def kSl2 (fh : Sig → AH → Res (Option Int)) (δ : Sig) (a : DV) (l : Option Int) (S : AH) : Res DV := (fh δ S).bind (kSl3 a l)
def kSl (fl fh : Sig → AH → Res (Option Int)) (δ : Sig) (a : DV) (S : AH) : Res DV := (fl δ S).bind (kSl2 fh δ a)
@[simp] theorem ev_sl {fl fh : Sig → AH → Res (Option Int)} : dSl fa fl fh δ S = (fa δ S).bind (kSl fl fh δ) := (rfl)
@[simp] theorem ev_kSl {fl fh : Sig → AH → Res (Option Int)} {a : DV} : kSl fl fh δ a S = (fl δ S).bind (kSl2 fh δ a) := (rfl)
@[simp] theorem ev_kSl2 {fh : Sig → AH → Res (Option Int)} {a : DV} {l : Option Int} : kSl2 fh δ a l S = (fh δ S).bind (kSl3 a l) := (rfl)
@[simp] theorem ev_kSl3 {a : DV} {l h : Option Int} : kSl3 a l h S = lift (slO a l h S) := (rfl)
def kAppF (o : OpF) (ds : List DV) (S : AH) : Res (List PV) := match o ds S with
  | some ps => .ok ps S
  | none => .bad
@[simp] theorem ev_appF {o : OpF} : dAppF o fs δ S = (fs δ S).bind (kAppF o) := (rfl)
def kIsi (T : String) (a : DV) (S : AH) : Res DV := match tyName a S with
  | some t => .ok (.p (.bl (isTy t T))) S
  | none => .bad
@[simp] theorem ev_isi {T : String} : dIsi T fa δ S = (fa δ S).bind (kIsi T) := (rfl)
def kIsiT (Ts : List String) (a : DV) (S : AH) : Res DV := match tyName a S with
  | some t => .ok (.p (.bl (Ts.any fun T => isTy t T))) S
  | none => .bad
@[simp] theorem ev_isiT {Ts : List String} : dIsiT Ts fa δ S = (fa δ S).bind (kIsiT Ts) := (rfl)
@[simp] theorem ev_call {F : List DV → AH → Res DV} : dCall F fs δ S = (fs δ S).bind F := (rfl)
def kMeth2 (o : OpM) (d : DV) (ds : List DV) (S : AH) : Res DV := lift (o d ds S)
def kMeth (o : OpM) (fs : Sig → AH → Res (List DV)) (δ : Sig) (d : DV) (S : AH) : Res DV := if isLst d S = true then (fs δ S).bind (kMeth2 o d) else .bad
@[simp] theorem ev_meth {o : OpM} : dMeth o fa fs δ S = (fa δ S).bind (kMeth o fs δ) := (rfl)
@[simp] theorem ev_kMeth2 {o : OpM} {d : DV} {ds : List DV} : kMeth2 o d ds S = lift (o d ds S) := (rfl)
theorem ev_kMeth {o : OpM} {d : DV} {xs : List PV} (h : litems d S = some xs) : kMeth o fs δ d S = (fs δ S).bind (kMeth2 o d) := by unfold kMeth isLst; rw [h]; rfl
theorem ev_kMethN {o : OpM} {d : DV} {ks : List Nat} (h : nitems d S = some ks) : kMeth o fs δ d S = (fs δ S).bind (kMeth2 o d) := by unfold kMeth isLst; rw [h, Option.isSome_some, Bool.or_true, if_pos rfl]
def kMeth0 (o : OpM) (d : DV) (S : AH) : Res DV := if isLst d S = true then lift (o d [] S) else .bad
@[simp] theorem ev_meth0 {o : OpM} : dMeth0 o fa δ S = (fa δ S).bind (kMeth0 o) := (rfl)
theorem ev_kMeth0 {o : OpM} {d : DV} {xs : List PV} (h : litems d S = some xs) : kMeth0 o d S = lift (o d [] S) := by unfold kMeth0 isLst; rw [h]; rfl
/- statements -/
def Out.seq (o : Out) (g : Sig → AH → Out) : Out := match o with
  | .nx δ S => g δ S
  | o => o
@[simp] theorem ev_seq : dSeq f g δ S = (f δ S).seq g := by
  unfold dSeq Out.seq
  rfl
@[simp] theorem seq_nx : (Out.nx δ S).seq g = g δ S := (rfl)
@[simp] theorem seq_rt {d : DV} : (Out.rt d S).seq g = .rt d S := (rfl)
@[simp] theorem seq_exc {c : Str} {p : List (Str × PV)} : (Out.exc c p δ S).seq g = .exc c p δ S := (rfl)
@[simp] theorem seq_bad : Out.bad.seq g = .bad := (rfl)
@[simp] theorem seq_bk : (Out.bk δ S).seq g = .bk δ S := (rfl)
@[simp] theorem seq_ct : (Out.ct δ S).seq g = .ct δ S := (rfl)
@[simp] theorem ev_pass : dPass δ S = .nx δ S := (rfl)
@[simp] theorem ev_break : dBreak δ S = .bk δ S := (rfl)
@[simp] theorem ev_cont : dCont δ S = .ct δ S := (rfl)
@[simp] theorem ev_never : dNever δ S = .bad := (rfl)
@[simp] theorem ev_raise {c : Str} : dRaise c δ S = .exc c [] δ S := (rfl)
def jDrop (δ : Sig) (_ : DV) (S : AH) : Out := .nx δ S
@[simp] theorem ev_drop : dDrop fa δ S = (fa δ S).out δ (jDrop δ) := (rfl)
@[simp] theorem ev_jDrop {d : DV} : jDrop δ d S = .nx δ S := (rfl)
def jRet (d : DV) (S : AH) : Out := .rt d S
@[simp] theorem ev_ret : dRet fa δ S = (fa δ S).out δ jRet := (rfl)
@[simp] theorem ev_jRet {d : DV} : jRet d S = .rt d S := (rfl)
@[simp] theorem ev_retN : dRetN δ S = .rt (.p .non) S := (rfl)
def jSet (i : Nat) (δ : Sig) (d : DV) (S : AH) : Out := .nx (δ.set i (some d)) S
@[simp] theorem ev_set {i : Nat} : dSet i fa δ S = (fa δ S).out δ (jSet i δ) := (rfl)
@[simp] theorem ev_jSet {i : Nat} {d : DV} : jSet i δ d S = .nx (δ.set i (some d)) S := (rfl)
@[simp] theorem ev_setF {i : Nat} : dSetF i fl δ S = (dVal fl δ S).out δ (jSet i δ) := (rfl)
@[simp] theorem ev_setC {i : Nat} : dSetC i fl δ S = (dCell fl δ S).out δ (jSet i δ) := (rfl)
def jAsg (q : Pat) (δ : Sig) (d : DV) (S : AH) : Out := match d with
  | .p x => match q.set (.p x) δ with
    | some δ' => .nx δ' S
    | none => .bad
  | .c _ => .bad
@[simp] theorem ev_asg {q : Pat} : dAsg q fa δ S = (fa δ S).out δ (jAsg q δ) := (rfl)
theorem ev_jAsg {q : Pat} {x : PV} {δ' : Sig} (h : q.set (.p x) δ = some δ') : jAsg q δ (.p x) S = .nx δ' S := by unfold jAsg; simp only [h]
def jIf (f g : Sig → AH → Out) (δ : Sig) (b : Bool) (S : AH) : Out := if b = true then f δ S else g δ S
@[simp] theorem ev_if : dIf ga f g δ S = (ga δ S).out δ (jIf f g δ) := (rfl)
@[simp] theorem ev_jIf_t : jIf f g δ true S = f δ S := (rfl)
@[simp] theorem ev_jIf_f : jIf f g δ false S = g δ S := (rfl)
def jPar (i j : Nat) (δ : Sig) (ds : List DV) (S : AH) : Out := match ds with
  | [d, e] => .nx ((δ.set i (some d)).set j (some e)) S
  | _ => .bad
@[simp] theorem ev_par {i j : Nat} : dPar i j fs δ S = (fs δ S).out δ (jPar i j δ) := (rfl)
@[simp] theorem ev_jPar {i j : Nat} {d e : DV} : jPar i j δ [d, e] S = .nx ((δ.set i (some d)).set j (some e)) S := (rfl)
def jSub3 (o v i : DV) (δ : Sig) (S : AH) : Out := match setIx o i v S with
  | some S' => .nx δ S'
  | none => .bad
def jSub2 (o v : DV) (δ : Sig) (i : DV) (S : AH) : Out := jSub3 o v i δ S
def jSub1 (fi : Sig → AH → Res DV) (v : DV) (δ : Sig) (o : DV) (S : AH) : Out := (fi δ S).out δ (jSub2 o v δ)
def jSub (fo fi : Sig → AH → Res DV) (δ : Sig) (v : DV) (S : AH) : Out := (fo δ S).out δ (jSub1 fi v δ)
@[simp] theorem ev_sub {fo fi : Sig → AH → Res DV} : dSub fa fo fi δ S = (fa δ S).out δ (jSub fo fi δ) := (rfl)
@[simp] theorem ev_jSub {fo fi : Sig → AH → Res DV} {v : DV} : jSub fo fi δ v S = (fo δ S).out δ (jSub1 fi v δ) := (rfl)
@[simp] theorem ev_jSub1 {fi : Sig → AH → Res DV} {v o : DV} : jSub1 fi v δ o S = (fi δ S).out δ (jSub2 o v δ) := (rfl)
@[simp] theorem ev_jSub2 {v o i : DV} : jSub2 o v δ i S = jSub3 o v i δ S := (rfl)
theorem ev_jSub3 {v o i : DV} {S' : AH} (h : setIx o i v S = some S') : jSub3 o v i δ S = .nx δ S' := by unfold jSub3; rw [h]
def jAug2 (i : Nat) (δ : Sig) (d : DV) (S : AH) : Out := .nx (δ.set i (some d)) S
def jAug (i : Nat) (o : Op2) (a : DV) (δ : Sig) (b : DV) (S : AH) : Out := (lift (o a b S)).out δ (jAug2 i δ)
def augOf (i : Nat) (o : Op2) (fa : Sig → AH → Res DV) (δ : Sig) (a : Option (Option DV)) (S : AH) : Out := match a with
  | some (some a) => (fa δ S).out δ (jAug i o a δ)
  | _ => .bad
@[simp] theorem ev_aug {i : Nat} {o : Op2} : dAug i o fa δ S = augOf i o fa δ δ[i]? S := by
  unfold dAug augOf
  rfl
@[simp] theorem ev_augOf {i : Nat} {o : Op2} {a : DV} : augOf i o fa δ (some (some a)) S = (fa δ S).out δ (jAug i o a δ) := (rfl)
@[simp] theorem ev_jAug {i : Nat} {o : Op2} {a b : DV} : jAug i o a δ b S = (lift (o a b S)).out δ (jAug2 i δ) := (rfl)
@[simp] theorem ev_jAug2 {i : Nat} {d : DV} : jAug2 i δ d S = .nx (δ.set i (some d)) S := (rfl)
end
/- values -/
@[simp] theorem addO_int {i j : Int} {S : AH} : addO (.p (.int i)) (.p (.int j)) S = some (.p (.int (i + j)), S) := (rfl)
@[simp] theorem subO_int {i j : Int} {S : AH} : subO (.p (.int i)) (.p (.int j)) S = some (.p (.int (i - j)), S) := (rfl)
@[simp] theorem negO_int {i : Int} {S : AH} : negO (.p (.int i)) S = some (.p (.int (-i)), S) := (rfl)
theorem mulO_int {i j : Int} {S : AH} (h : mulOk i j) : mulO (.p (.int i)) (.p (.int j)) S = some (.p (.int (i * j)), S) := by
  show (if mulOk i j then _ else _) = _
  rw [if_pos h]
theorem mulOk_r {i j : Int} (h : -(2 ^ 64) < j ∧ j < 2 ^ 64) : mulOk i j := .inl (.inr h)
theorem mulOk_l {i j : Int} (h : -(2 ^ 64) < i ∧ i < 2 ^ 64) : mulOk i j := .inl (.inl h)
theorem divO_int {i j : Int} {S : AH} (h : divOk j) : divO (.p (.int i)) (.p (.int j)) S = some (.p (.int (i / j)), S) := by
  show (if divOk j then _ else _) = _
  rw [if_pos h]
theorem divOk_of {j : Int} (h : 0 < j) (h2 : j < 2 ^ 64) : divOk j := by
  refine ⟨h, ?_⟩
  have : j.natAbs.log2 < 64 := (Nat.log2_lt (by omega)).mpr (by omega)
  omega
theorem modO_int {i j : Int} {S : AH} (h : 0 < j) : modO (.p (.int i)) (.p (.int j)) S = some (.p (.int (i % j)), S) := by
  show (if 0 < j then _ else _) = _
  rw [if_pos h]
theorem powO_int {i j : Int} {S : AH} (h : powOk i j) : powO (.p (.int i)) (.p (.int j)) S = some (.p (.int (i ^ j.toNat)), S) := by
  show (if powOk i j then _ else _) = _
  rw [if_pos h]
@[simp] theorem cmpO_int {p : Int → Int → Bool} {i j : Int} {S : AH} : cmpO p (.p (.int i)) (.p (.int j)) S = some (.p (.bl (p i j)), S) := (rfl)
theorem addO_tup {xs ys : List PV} {S : AH} (h : xs.length + ys.length ≤ 16777216) : addO (.p (.tup xs)) (.p (.tup ys)) S = some (.p (.tup (xs ++ ys)), S) := by
  show (if xs.length + ys.length ≤ sizeLine then _ else _) = _
  rw [if_pos (by rw [show sizeLine = 16777216 by decide]; exact h)]
@[simp] theorem intO_int {i : Int} {S : AH} : intO [.p (.int i)] S = some (.p (.int i), S) := (rfl)
@[simp] theorem intO_bl {b : Bool} {S : AH} : intO [.p (.bl b)] S = some (.p (.int (if b then 1 else 0)), S) := (rfl)
@[simp] theorem absO_int {i : Int} {S : AH} : absO [.p (.int i)] S = some (.p (.int (if i < 0 then -i else i)), S) := (rfl)
@[simp] theorem lenO_tup {xs : List PV} {S : AH} : lenO [.p (.tup xs)] S = some (.p (.int xs.length), S) := (rfl)
@[simp] theorem lenO_lst {xs : List PV} {S : AH} : lenO [.p (.lst xs)] S = some (.p (.int xs.length), S) := (rfl)
@[simp] theorem lenO_fro {xs : List PV} {S : AH} : lenO [.p (.fro xs)] S = some (.p (.int xs.length), S) := (rfl)
theorem lenO_c {n : Nat} {xs : List PV} {S : AH} (h : S[n]? = some (.lst xs)) : lenO [.c n] S = some (.p (.int xs.length), S) := by
  unfold lenO items
  simp only [h]
@[simp] theorem minO_int {i j : Int} {S : AH} : minO [.p (.int i), .p (.int j)] S = some (.p (.int (if j < i then j else i)), S) := (rfl)
@[simp] theorem maxO_int {i j : Int} {S : AH} : maxO [.p (.int i), .p (.int j)] S = some (.p (.int (if j > i then j else i)), S) := (rfl)
@[simp] theorem tupleO_tup {xs : List PV} {S : AH} : tupleO [.p (.tup xs)] S = some (.p (.tup xs), S) := (rfl)
@[simp] theorem tupleO_lst {xs : List PV} {S : AH} : tupleO [.p (.lst xs)] S = some (.p (.tup xs), S) := (rfl)
theorem tupleO_c {n : Nat} {xs : List PV} {S : AH} (h : S[n]? = some (.lst xs)) : tupleO [.c n] S = some (.p (.tup xs), S) := by
  unfold tupleO items
  simp only [h]
theorem sumO_tup {ns : List Int} {S : AH} : sumO [.p (.tup (ns.map PV.int))] S = some (.p (.int ns.sum), S) := by
  unfold sumO items
  simp only [intsOf_map]
theorem sumO_lst {ns : List Int} {S : AH} : sumO [.p (.lst (ns.map PV.int))] S = some (.p (.int ns.sum), S) := by
  unfold sumO items
  simp only [intsOf_map]
theorem allO_lst {ns : List Bool} {S : AH} : allO [.p (.lst (ns.map PV.bl))] S = some (.p (.bl (ns.all id)), S) := by
  unfold allO litems
  simp only [blsOf_map]
theorem anyO_lst {ns : List Bool} {S : AH} : anyO [.p (.lst (ns.map PV.bl))] S = some (.p (.bl (ns.any id)), S) := by
  unfold anyO litems
  simp only [blsOf_map]
@[simp] theorem pvs_nil : pvs [] = some [] := (rfl)
@[simp] theorem pvs_cons {x : PV} {r : List DV} : pvs (.p x :: r) = (pvs r).map fun t => x :: t := (rfl)
theorem kTup_ok {ds : List DV} {ps : List PV} {S : AH} (h : pvs ds = some ps) (z : ps.length ≤ 1000) : DL.kTup ds S = .ok (.p (.tup ps)) S := by
  unfold DL.kTup
  simp only [h]
  rw [if_pos z]
@[simp] theorem kTup1 {a : PV} {S : AH} : DL.kTup [.p a] S = .ok (.p (.tup [a])) S := (rfl)
@[simp] theorem kTup0 {S : AH} : DL.kTup [] S = .ok (.p (.tup [])) S := (rfl)
@[simp] theorem kTup2 {a b : PV} {S : AH} : DL.kTup [.p a, .p b] S = .ok (.p (.tup [a, b])) S := (rfl)
@[simp] theorem kTup3 {a b c : PV} {S : AH} : DL.kTup [.p a, .p b, .p c] S = .ok (.p (.tup [a, b, c])) S := (rfl)
@[simp] theorem kTup4 {a b c d : PV} {S : AH} : DL.kTup [.p a, .p b, .p c, .p d] S = .ok (.p (.tup [a, b, c, d])) S := (rfl)
@[simp] theorem kLst0 {S : AH} : kLst [] S = .ok [] S := (rfl)
@[simp] theorem kLst1 {a : PV} {S : AH} : kLst [.p a] S = .ok [a] S := (rfl)
@[simp] theorem kLst2 {a b : PV} {S : AH} : kLst [.p a, .p b] S = .ok [a, b] S := (rfl)
@[simp] theorem kLst3 {a b c : PV} {S : AH} : kLst [.p a, .p b, .p c] S = .ok [a, b, c] S := (rfl)
@[simp] theorem kLst4 {a b c d : PV} {S : AH} : kLst [.p a, .p b, .p c, .p d] S = .ok [a, b, c, d] S := (rfl)
theorem kLst_ok {ds : List DV} {ps : List PV} {S : AH} (h : pvs ds = some ps) (z : ps.length ≤ 1000) : kLst ds S = .ok ps S := by
  unfold kLst
  simp only [h]
  rw [if_pos z]
/- defs -/
@[simp] theorem dDef_ap {N n : Nat} {keep : Bool} {body : Sig → AH → Out} {ds : List DV} {S : AH} (h : ds.length = n) : dDef N n keep body ds S = gcK S keep (body (ds.map some ++ List.replicate (N - n) none) S) := by
  unfold dDef
  rw [if_pos h]
@[simp] theorem okC_nil {n : Nat} {S : AH} : okC n [] S = True := eq_true trivial
@[simp] theorem okC_cons {n : Nat} {a b : Cell} {S S' : AH} : okC n (a :: S) (b :: S') = (okc n a b ∧ okC n S S') := (rfl)
@[simp] theorem okc_lst {n : Nat} {a : Cell} {xs : List PV} : okc n a (.lst xs) = True := eq_true trivial
@[simp] theorem okc_same {n : Nat} {a : Cell} : okc n a a = True := eq_true (okc_self n a)
@[simp] theorem okC_same {n : Nat} {S : AH} : okC n S S = True := eq_true (okC_self n S)
@[simp] theorem okC_more {n : Nat} {S J : AH} : okC n S (S ++ J) = True := eq_true (okC_app n S J)
theorem gcK_ok {S : AH} {keep : Bool} {o : Out} (h : okC S.length S o.heap) : gcK S keep o = gcR S.length keep o := by
  unfold gcK
  rw [if_pos h]
@[simp] theorem gc_nx {S0 : AH} {keep : Bool} {δ : Sig} {S : AH} (h : okC S0.length S0 S) : gcK S0 keep (.nx δ S) = .ok (.p .non) (S.take S0.length) := by rw [gcK_ok h]; rfl
@[simp] theorem gc_rt {S0 : AH} {keep : Bool} {v : PV} {S : AH} (h : okC S0.length S0 S) : gcK S0 keep (.rt (.p v) S) = .ok (.p v) (S.take S0.length) := by rw [gcK_ok h]; rfl
@[simp] theorem gc_exc {S0 : AH} {keep : Bool} {δ : Sig} {S : AH} {c : Str} {p : List (Str × PV)} (h : okC S0.length S0 S) : gcK S0 keep (.exc c p δ S) = .exc c p (S.take S0.length) := by rw [gcK_ok h]; rfl
theorem gc_cell {S0 : AH} {i : Nat} {S : AH} {xs : List PV} (ok : okC S0.length S0 S) (h : S0.length ≤ i) (e : S[i]? = some (.lst xs)) : gcK S0 true (.rt (.c i) S) = .ok (.c S0.length) (S.take S0.length ++ [.lst xs]) := by
  rw [gcK_ok ok]
  unfold gcR
  simp only [e]
  rw [if_neg (by omega)]
  rfl
theorem gc_lst {S0 : AH} {i : Nat} {S : AH} {xs : List PV} (ok : okC S0.length S0 S) (h : S0.length ≤ i) (e : S[i]? = some (.lst xs)) : gcK S0 false (.rt (.c i) S) = .ok (.p (.lst xs)) (S.take S0.length) := by
  rw [gcK_ok ok]
  unfold gcR
  simp only [e]
  rw [if_neg (by omega)]
  rfl
theorem gc_nst {S0 : AH} {i : Nat} {S : AH} {ks : List Nat} {ps : List PV} {keep : Bool} (ok : okC S0.length S0 S) (h : S0.length ≤ i) (e : S[i]? = some (.nst ks)) (f : frzCs S0.length S ks = some ps) : gcK S0 keep (.rt (.c i) S) = .ok (.p (.lst ps)) (S.take S0.length) := by
  rw [gcK_ok ok]
  unfold gcR
  simp only [e, f]
  rw [if_neg (by omega)]
theorem gc_tup {S0 : AH} {S : AH} {ds : List DV} {ps : List PV} {keep : Bool} (ok : okC S0.length S0 S) (f : frzDs S0.length S ds = some ps) : gcK S0 keep (.rtT ds S) = .ok (.p (.tup ps)) (S.take S0.length) := by
  rw [gcK_ok ok]
  unfold gcR
  simp only [f]
def jRetT (ds : List DV) (S : AH) : Out := if ds.length ≤ 1000 then .rtT ds S else .bad
@[simp] theorem ev_retT {fs : Sig → AH → Res (List DV)} {δ : Sig} {S : AH} : dRetT fs δ S = (fs δ S).out δ jRetT := (rfl)
@[simp] theorem ev_jRetT1 {a : DV} {S : AH} : jRetT [a] S = .rtT [a] S := (rfl)
@[simp] theorem ev_jRetT2 {a b : DV} {S : AH} : jRetT [a, b] S = .rtT [a, b] S := (rfl)
@[simp] theorem ev_jRetT3 {a b c : DV} {S : AH} : jRetT [a, b, c] S = .rtT [a, b, c] S := (rfl)
@[simp] theorem seq_rtT {ds : List DV} {S : AH} {g : Sig → AH → Out} : (Out.rtT ds S).seq g = .rtT ds S := (rfl)
/- loops -/
section
variable {δ : Sig} {S : AH} {fb : Sig → AH → Out} {q : Pat} {fi : Sig → AH → Res Its'} {fc : Sig → AH → Res Bool} {fe : Sig → AH → Res DV} {fs : Sig → AH → Res (List DV)} {fa : Sig → AH → Res DV}
abbrev ckT : AH → Prop := fun _ => True
noncomputable def jFor (q : Pat) (fb : Sig → AH → Out) (δ : Sig) (x : Its') (S : AH) : Out := forGo x.2 q fb x.1 δ S
@[simp] theorem ev_for : dFor fi q fb δ S = (fi δ S).out δ (jFor q fb δ) := (rfl)
@[simp] theorem ev_jFor {xs : List DV} {ck : AH → Prop} : jFor q fb δ (xs, ck) S = forGo ck q fb xs δ S := (rfl)
@[simp] theorem for_nil : forGo ckT q fb [] δ S = .nx δ S := by
  unfold forGo
  rw [if_pos trivial]
def afterTurn (o : Out) (k : Sig → AH → Out) : Out := match o with
  | .nx δ S => k δ S
  | .ct δ S => k δ S
  | .bk δ S => .nx δ S
  | o => o
@[simp] theorem after_nx {k : Sig → AH → Out} : afterTurn (.nx δ S) k = k δ S := (rfl)
@[simp] theorem after_ct {k : Sig → AH → Out} : afterTurn (.ct δ S) k = k δ S := (rfl)
@[simp] theorem after_bk {k : Sig → AH → Out} : afterTurn (.bk δ S) k = .nx δ S := (rfl)
@[simp] theorem after_rt {k : Sig → AH → Out} {d : DV} : afterTurn (.rt d S) k = .rt d S := (rfl)
@[simp] theorem after_exc {k : Sig → AH → Out} {c : Str} {p : List (Str × PV)} : afterTurn (.exc c p δ S) k = .exc c p δ S := (rfl)
@[simp] theorem after_rtT {k : Sig → AH → Out} {ds : List DV} : afterTurn (.rtT ds S) k = .rtT ds S := (rfl)
@[simp] theorem after_bad {k : Sig → AH → Out} : afterTurn .bad k = .bad := (rfl)
theorem for_cons {x : DV} {xs : List DV} {δ1 : Sig} (h : q.set x δ = some δ1) : forGo ckT q fb (x :: xs) δ S = afterTurn (fb δ1 S) (forGo ckT q fb xs) := by
  conv => lhs; unfold forGo
  rw [if_pos trivial]
  simp only [h]
  unfold afterTurn
  rfl
/-- the name of a loop -/
theorem for_nm {i : Nat} {x : DV} {xs : List DV} : forGo ckT (.nm i) fb (x :: xs) δ S = afterTurn (fb (δ.set i (some x)) S) (forGo ckT (.nm i) fb xs) := for_cons rfl
def kSeqI (d : DV) (S : AH) : Res Its' := match d with
  | .p (.tup xs) => .ok (dit xs, ckT) S
  | .p (.lst xs) => .ok (dit xs, ckT) S
  | .p (.fro xs) => .ok (dit xs, ckT) S
  | .p (.str z) => .ok (signs z, ckT) S
  | .c n => match S[n]? with
    | some (.lst xs) => .ok (dit xs, fun S' => S'[n]? = some (.lst xs)) S
    | some (.nst ks) => .ok (dic ks, fun S' => S'[n]? = some (.nst ks)) S
    | _ => .bad
  | _ => .bad
@[simp] theorem ev_seqI : dSeqI fa δ S = (fa δ S).bind kSeqI := (rfl)
@[simp] theorem ev_kSeqI_tup {xs : List PV} : kSeqI (.p (.tup xs)) S = .ok (dit xs, ckT) S := (rfl)
@[simp] theorem ev_kSeqI_lst {xs : List PV} : kSeqI (.p (.lst xs)) S = .ok (dit xs, ckT) S := (rfl)
@[simp] theorem ev_kSeqI_fro {xs : List PV} : kSeqI (.p (.fro xs)) S = .ok (dit xs, ckT) S := (rfl)
theorem ev_kSeqI_c {n : Nat} {xs : List PV} (h : S[n]? = some (.lst xs)) : kSeqI (.c n) S = .ok (dit xs, fun S' => S'[n]? = some (.lst xs)) S := by
  unfold kSeqI
  simp only [h]
theorem ev_kSeqI_n {n : Nat} {ks : List Nat} (h : S[n]? = some (.nst ks)) : kSeqI (.c n) S = .ok (dic ks, fun S' => S'[n]? = some (.nst ks)) S := by
  unfold kSeqI
  simp only [h]
def kRng1 (ds : List DV) (S : AH) : Res Its' := match ds with
  | [.p (.int j)] => if small62 j then .ok (rangeI 0 j.toNat, fun _ => True) S else .bad
  | _ => .bad
@[simp] theorem ev_rng1 : dRng1 fs δ S = (fs δ S).bind kRng1 := (rfl)
theorem kRng1_ok {j : Int} (h : small62 j) : kRng1 [.p (.int j)] S = .ok (rangeI 0 j.toNat, ckT) S := by
  show (if small62 j then _ else _) = _
  rw [if_pos h]
def kRng2 (ds : List DV) (S : AH) : Res Its' := match ds with
  | [.p (.int i), .p (.int j)] => if small62 i ∧ small62 j then .ok (rangeI i (j - i).toNat, fun _ => True) S else .bad
  | _ => .bad
@[simp] theorem ev_rng2 : dRng2 fs δ S = (fs δ S).bind kRng2 := (rfl)
theorem kRng2_ok {i j : Int} (h : small62 i) (h2 : small62 j) : kRng2 [.p (.int i), .p (.int j)] S = .ok (rangeI i (j - i).toNat, ckT) S := by
  show (if small62 i ∧ small62 j then _ else _) = _
  rw [if_pos ⟨h, h2⟩]
@[simp] theorem range0 {lo : Int} : rangeI lo 0 = [] := (rfl)
theorem range_succ {lo : Int} {n : Nat} : rangeI lo (n + 1) = .p (.int lo) :: rangeI (lo + 1) n := by
  unfold rangeI
  rw [List.range_succ_eq_map, List.map_cons, List.map_map]
  congr 1
  · simp
  · refine List.map_congr_left fun i _ => ?_
    show DV.p (PV.int (lo + ((i + 1 : Nat) : Int))) = DV.p (PV.int (lo + 1 + (i : Int)))
    congr 2
    omega
noncomputable def kLc (q : Pat) (fc : Sig → AH → Res Bool) (fe : Sig → AH → Res DV) (vs : List Nat) (δ : Sig) (x : Its') (S : AH) : Res (List PV) := if x.1.length ≤ 16777216 then lcGo x.2 q fc fe (wipeD δ vs) x.1 S else .bad
@[simp] theorem ev_lc {vs : List Nat} : dLc fi q fc fe vs δ S = (fi δ S).bind (kLc q fc fe vs δ) := (rfl)
theorem ev_kLc {vs : List Nat} {xs : List DV} {ck : AH → Prop} (h : xs.length ≤ 16777216) : kLc q fc fe vs δ (xs, ck) S = lcGo ck q fc fe (wipeD δ vs) xs S := by
  unfold kLc
  rw [if_pos h]
@[simp] theorem lc_nil {ck : AH → Prop} (h : ck S) : lcGo ck q fc fe δ [] S = .ok [] S := by
  unfold lcGo
  rw [if_pos h]
def kLcC (y : PV) (ys : List PV) (S : AH) : Res (List PV) := .ok (y :: ys) S
@[simp] theorem ev_kLcC {y : PV} {ys : List PV} : kLcC y ys S = .ok (y :: ys) S := (rfl)
/-- an item that is taken -/
theorem lc_take {ck : AH → Prop} {x : DV} {y : PV} {xs : List DV} {δ2 : Sig} {S1 S2 : AH} (h : ck S) (hq : q.set x δ = some δ2) (hc : fc δ2 S = .ok true S1) (he : fe δ2 S1 = .ok (.p y) S2) :
    lcGo ck q fc fe δ (x :: xs) S = (lcGo ck q fc fe δ xs S2).bind (kLcC y) := by
  rw [show lcGo ck q fc fe δ (x :: xs) S = _ from by unfold lcGo; rfl, if_pos h]
  simp only [hq, hc, nox_ok, Res.bind_ok, if_true, he]
  rfl
theorem lc_skip {ck : AH → Prop} {x : DV} {xs : List DV} {δ2 : Sig} {S1 : AH} (h : ck S) (hq : q.set x δ = some δ2) (hc : fc δ2 S = .ok false S1) :
    lcGo ck q fc fe δ (x :: xs) S = lcGo ck q fc fe δ xs S1 := by
  conv => lhs; unfold lcGo
  rw [if_pos h]
  simp only [hq, hc, nox_ok, Res.bind_ok, Bool.false_eq_true, if_false]
/-- a comprehension that touches nothing -/
theorem lc_map {ck : AH → Prop} {xs : List PV} (h : ck S) (g : PV → PV) (hq : ∀ x ∈ xs, ∃ δ2, q.set (.p x) δ = some δ2 ∧ fe δ2 S = .ok (.p (g x)) S) : lcGo ck q dYes fe δ (dit xs) S = .ok (xs.map g) S := by
  induction xs with
  | nil => exact lc_nil h
  | cons x xs ih =>
    obtain ⟨δ2, h1, h2⟩ := hq x List.mem_cons_self
    rw [dit_cons, lc_take h h1 rfl h2, ih fun y hy => hq y (List.mem_cons_of_mem _ hy)]
    rfl
theorem lc_filter {ck : AH → Prop} {xs : List PV} (h : ck S) (p : PV → Bool) (g : PV → PV) (hq : ∀ x ∈ xs, ∃ δ2, q.set (.p x) δ = some δ2 ∧ fc δ2 S = .ok (p x) S ∧ (p x = true → fe δ2 S = .ok (.p (g x)) S)) : lcGo ck q fc fe δ (dit xs) S = .ok ((xs.filter p).map g) S := by
  induction xs with
  | nil => exact lc_nil h
  | cons x xs ih =>
    obtain ⟨δ2, h1, h2, h3⟩ := hq x List.mem_cons_self
    have ih' := ih fun y hy => hq y (List.mem_cons_of_mem _ hy)
    cases e : p x with
    | true =>
      rw [e] at h2
      rw [dit_cons, lc_take h h1 h2 (h3 e), ih', List.filter_cons_of_pos e]
      rfl
    | false =>
      rw [e] at h2
      rw [dit_cons, lc_skip h h1 h2, ih', List.filter_cons_of_neg (by rw [e]; exact Bool.false_ne_true)]
end
end
end DL
namespace DL
noncomputable section
open PySem L2
/-- data of a depth -/
def PV.fit : Nat → PV → Prop
  | _, .non => True
  | _, .bl _ => True
  | _, .int _ => True
  | _, .str x => (PyData.str x).canLay0 = true
  | _, .glob _ => False
  | 0, _ => False
  | n + 1, .tup xs => ∀ x ∈ xs, PV.fit n x
  | n + 1, .lst xs => ∀ x ∈ xs, PV.fit n x
  | n + 1, .fro xs => ∀ x ∈ xs, PV.fit n x
theorem fits_datas {n : Nat} (ih : ∀ x : PV, x.fit n → ∃ d, x.data = some d ∧ d.canLay0 = true ∧ d.depth ≤ n) : ∀ xs : List PV, (∀ x ∈ xs, x.fit n) → ∃ ds, PV.datas xs = some ds ∧ PyData.canLayAll0 ds = true ∧ PyData.depthAll ds ≤ n
  | [], _ => ⟨[], rfl, by simp [PyData.canLayAll0], by simp [PyData.depthAll]⟩
  | x :: xs, h => by
    obtain ⟨d, h1, h2, h3⟩ := ih x (h x List.mem_cons_self)
    obtain ⟨ds, k1, k2, k3⟩ := fits_datas ih xs fun y hy => h y (List.mem_cons_of_mem _ hy)
    refine ⟨d :: ds, by simp [PV.datas, h1, k1], by simp [PyData.canLayAll0, h2, k2], ?_⟩
    simp only [PyData.depthAll]
    omega
theorem fit_data : ∀ (n : Nat) (x : PV), x.fit n → ∃ d, x.data = some d ∧ d.canLay0 = true ∧ d.depth ≤ n
  | n, .non, _ => ⟨.none, by simp [PV.data], by simp [PyData.canLay0], by simp [PyData.depth]⟩
  | n, .bl b, _ => ⟨.bool b, by simp [PV.data], by simp [PyData.canLay0], by simp [PyData.depth]⟩
  | n, .int i, _ => ⟨.int i, by simp [PV.data], by simp [PyData.canLay0], by simp [PyData.depth]⟩
  | 0, .str x, h => ⟨.str x, by simp [PV.data], h, by simp [PyData.depth]⟩
  | n + 1, .str x, h => ⟨.str x, by simp [PV.data], h, by simp [PyData.depth]⟩
  | 0, .glob _, h => h.elim
  | n + 1, .glob _, h => h.elim
  | 0, .tup _, h => h.elim
  | 0, .lst _, h => h.elim
  | 0, .fro _, h => h.elim
  | n + 1, .tup xs, h => by
    obtain ⟨ds, k1, k2, k3⟩ := fits_datas (fit_data n) xs h
    exact ⟨.tuple ds, by simp [PV.data, k1], by simp [PyData.canLay0, k2], by simp only [PyData.depth]; omega⟩
  | n + 1, .lst xs, h => by
    obtain ⟨ds, k1, k2, k3⟩ := fits_datas (fit_data n) xs h
    exact ⟨.list ds, by simp [PV.data, k1], by simp [PyData.canLay0, k2], by simp only [PyData.depth]; omega⟩
  | n + 1, .fro xs, h => by
    obtain ⟨ds, k1, k2, k3⟩ := fits_datas (fit_data n) xs h
    exact ⟨.list ds, by simp [PV.data, k1], by simp [PyData.canLay0, k2], by simp only [PyData.depth]; omega⟩
theorem fit_shaped {n : Nat} {x : PV} (h : x.fit n) (hn : n ≤ 64) : ∃ d, x.data = some d ∧ SeqAt.shaped d = true := by
  obtain ⟨d, h1, h2, h3⟩ := fit_data n x h
  refine ⟨d, h1, ?_⟩
  unfold SeqAt.shaped
  rw [h2, Bool.true_and]
  exact decide_eq_true (by omega)
theorem sh_eqv {d : PyData} (h : SeqAt.shaped d = true) : PyData.eqv d d = true := by
  unfold SeqAt.shaped at h
  exact PySem.SeqAt.eqv_refl d (Bool.and_eq_true_iff.mp h).1
theorem eqO_self {n : Nat} {x : PV} {S : AH} (h : x.fit n) (hn : n ≤ 64) : eqO (.p x) (.p x) S = some (.p (.bl true), S) := by
  obtain ⟨d, h1, h2⟩ := fit_shaped h hn
  unfold eqO dataOf
  simp only [h1, eqDat, h2, and_self, if_true, Option.map_some, sh_eqv h2]
theorem neO_self {n : Nat} {x : PV} {S : AH} (h : x.fit n) (hn : n ≤ 64) : neO (.p x) (.p x) S = some (.p (.bl false), S) := by
  obtain ⟨d, h1, h2⟩ := fit_shaped h hn
  unfold neO dataOf
  simp only [h1, eqDat, h2, and_self, if_true, Option.map_some, sh_eqv h2, Bool.not_true]
theorem eqv_int (i j : Int) : PyData.eqv (.int i) (.int j) = decide (i = j) := by
  simp only [PyData.eqv]
  cases h : decide (i = j) with
  | true => simpa using h
  | false => simpa using h
@[simp] theorem eqO_int {i j : Int} {S : AH} : eqO (.p (.int i)) (.p (.int j)) S = some (.p (.bl (decide (i = j))), S) := by
  have h1 : SeqAt.shaped (.int i) = true := rfl
  have h2 : SeqAt.shaped (.int j) = true := rfl
  unfold eqO dataOf
  simp only [PV.data, eqDat, h1, h2, and_self, if_true, Option.map_some, eqv_int]
@[simp] theorem neO_int {i j : Int} {S : AH} : neO (.p (.int i)) (.p (.int j)) S = some (.p (.bl (!decide (i = j))), S) := by
  have h1 : SeqAt.shaped (.int i) = true := rfl
  have h2 : SeqAt.shaped (.int j) = true := rfl
  unfold neO dataOf
  simp only [PV.data, eqDat, h1, h2, and_self, if_true, Option.map_some, eqv_int]
/-- a tuple of numbers -/
abbrev tupI (ns : List Int) : PV := .tup (ns.map PV.int)
abbrev lstI (ns : List Int) : PV := .lst (ns.map PV.int)
theorem fit_ints (ns : List Int) {n : Nat} : ∀ x ∈ ns.map PV.int, x.fit n := fun x h => by
  obtain ⟨i, _, rfl⟩ := List.mem_map.mp h
  cases n <;> trivial
theorem fit_tupI (ns : List Int) {n : Nat} : (tupI ns).fit (n + 1) := fit_ints ns
theorem fit_lstI (ns : List Int) {n : Nat} : (lstI ns).fit (n + 1) := fit_ints ns
@[simp] theorem isO_bl {a b : Bool} {S : AH} : isO (.p (.bl a)) (.p (.bl b)) S = some (.p (.bl (decide (a = b))), S) := rfl
@[simp] theorem isNotO_bl {a b : Bool} {S : AH} : isNotO (.p (.bl a)) (.p (.bl b)) S = some (.p (.bl (!decide (a = b))), S) := rfl
@[simp] theorem isO_non {S : AH} : isO (.p .non) (.p .non) S = some (.p (.bl true), S) := rfl
@[simp] theorem isNotO_non {S : AH} : isNotO (.p .non) (.p .non) S = some (.p (.bl false), S) := rfl
@[simp] theorem isO_tup {xs : List PV} {S : AH} : isO (.p (.tup xs)) (.p .non) S = some (.p (.bl false), S) := rfl
@[simp] theorem isNotO_tup {xs : List PV} {S : AH} : isNotO (.p (.tup xs)) (.p .non) S = some (.p (.bl true), S) := rfl
@[simp] theorem isO_int {i : Int} {S : AH} : isO (.p (.int i)) (.p .non) S = some (.p (.bl false), S) := rfl
@[simp] theorem isNotO_int {i : Int} {S : AH} : isNotO (.p (.int i)) (.p .non) S = some (.p (.bl true), S) := rfl
/- kinds -/
@[simp] theorem kIsi_int {i : Int} {T : String} {S : AH} : kIsi T (.p (.int i)) S = .ok (.p (.bl (isTy "int" T))) S := rfl
@[simp] theorem kIsi_bl {b : Bool} {T : String} {S : AH} : kIsi T (.p (.bl b)) S = .ok (.p (.bl (isTy "bool" T))) S := rfl
@[simp] theorem kIsi_str {x : Str} {T : String} {S : AH} : kIsi T (.p (.str x)) S = .ok (.p (.bl (isTy "str" T))) S := rfl
@[simp] theorem kIsi_tup {xs : List PV} {T : String} {S : AH} : kIsi T (.p (.tup xs)) S = .ok (.p (.bl (isTy "tuple" T))) S := rfl
@[simp] theorem kIsi_lst {xs : List PV} {T : String} {S : AH} : kIsi T (.p (.lst xs)) S = .ok (.p (.bl (isTy "list" T))) S := rfl
@[simp] theorem kIsi_non {T : String} {S : AH} : kIsi T (.p .non) S = .ok (.p (.bl (isTy "NoneType" T))) S := rfl
@[simp] theorem kIsiT_int {i : Int} {T : List String} {S : AH} : kIsiT T (.p (.int i)) S = .ok (.p (.bl (T.any fun U => isTy "int" U))) S := rfl
@[simp] theorem kIsiT_bl {b : Bool} {T : List String} {S : AH} : kIsiT T (.p (.bl b)) S = .ok (.p (.bl (T.any fun U => isTy "bool" U))) S := rfl
@[simp] theorem kIsiT_str {x : Str} {T : List String} {S : AH} : kIsiT T (.p (.str x)) S = .ok (.p (.bl (T.any fun U => isTy "str" U))) S := rfl
@[simp] theorem kIsiT_tup {xs : List PV} {T : List String} {S : AH} : kIsiT T (.p (.tup xs)) S = .ok (.p (.bl (T.any fun U => isTy "tuple" U))) S := rfl
@[simp] theorem kIsiT_lst {xs : List PV} {T : List String} {S : AH} : kIsiT T (.p (.lst xs)) S = .ok (.p (.bl (T.any fun U => isTy "list" U))) S := rfl
@[simp] theorem kIsiT_non {T : List String} {S : AH} : kIsiT T (.p .non) S = .ok (.p (.bl (T.any fun U => isTy "NoneType" U))) S := rfl
@[simp] theorem ty_ii : isTy "int" "int" = true := by decide
@[simp] theorem ty_ib : isTy "int" "bool" = false := by decide
@[simp] theorem ty_is : isTy "int" "str" = false := by decide
@[simp] theorem ty_it : isTy "int" "tuple" = false := by decide
@[simp] theorem ty_il : isTy "int" "list" = false := by decide
@[simp] theorem ty_bi : isTy "bool" "int" = true := by decide
@[simp] theorem ty_bb : isTy "bool" "bool" = true := by decide
@[simp] theorem ty_bs : isTy "bool" "str" = false := by decide
@[simp] theorem ty_bt : isTy "bool" "tuple" = false := by decide
@[simp] theorem ty_bl : isTy "bool" "list" = false := by decide
@[simp] theorem ty_si : isTy "str" "int" = false := by decide
@[simp] theorem ty_sb : isTy "str" "bool" = false := by decide
@[simp] theorem ty_ss : isTy "str" "str" = true := by decide
@[simp] theorem ty_st : isTy "str" "tuple" = false := by decide
@[simp] theorem ty_sl : isTy "str" "list" = false := by decide
@[simp] theorem ty_ti : isTy "tuple" "int" = false := by decide
@[simp] theorem ty_tb : isTy "tuple" "bool" = false := by decide
@[simp] theorem ty_ts : isTy "tuple" "str" = false := by decide
@[simp] theorem ty_tt : isTy "tuple" "tuple" = true := by decide
@[simp] theorem ty_tl : isTy "tuple" "list" = false := by decide
@[simp] theorem ty_li : isTy "list" "int" = false := by decide
@[simp] theorem ty_lb : isTy "list" "bool" = false := by decide
@[simp] theorem ty_ls : isTy "list" "str" = false := by decide
@[simp] theorem ty_lt : isTy "list" "tuple" = false := by decide
@[simp] theorem ty_ll : isTy "list" "list" = true := by decide
@[simp] theorem ty_ni : isTy "NoneType" "int" = false := by decide
@[simp] theorem ty_nb : isTy "NoneType" "bool" = false := by decide
@[simp] theorem ty_ns : isTy "NoneType" "str" = false := by decide
@[simp] theorem ty_nt : isTy "NoneType" "tuple" = false := by decide
@[simp] theorem ty_nl : isTy "NoneType" "list" = false := by decide
/- items -/
theorem ixO_c {n : Nat} {i : Int} {xs : List PV} {x : PV} {S : AH} (h : S[n]? = some (.lst xs)) (e : atI xs i = some x) : ixO (.c n) (.p (.int i)) S = some (.p x, S) := by
  unfold ixO items
  simp only [h, e, Option.map_some]
theorem ixO_tup {i : Int} {xs : List PV} {x : PV} {S : AH} (e : atI xs i = some x) : ixO (.p (.tup xs)) (.p (.int i)) S = some (.p x, S) := by
  show (match items (.p (.tup xs)) S with | some xs => (atI xs i).map fun x => (DV.p x, S) | none => none) = _
  simp only [items, e, Option.map_some]
theorem ixO_lst {i : Int} {xs : List PV} {x : PV} {S : AH} (e : atI xs i = some x) : ixO (.p (.lst xs)) (.p (.int i)) S = some (.p x, S) := by
  show (match items (.p (.lst xs)) S with | some xs => (atI xs i).map fun x => (DV.p x, S) | none => none) = _
  simp only [items, e, Option.map_some]
theorem atI_map {α β : Type} (f : α → β) {xs : List α} {i : Int} {x : α} (h : atI xs i = some x) : atI (xs.map f) i = some (f x) := by
  unfold atI at h ⊢
  rw [List.length_map]
  cases e : ixN xs.length i with
  | none => rw [e] at h; cases h
  | some j =>
    rw [e] at h
    simp only [Option.bind_some] at h ⊢
    rw [List.getElem?_map, h]; rfl
/-- an index from 0 on -/
theorem atI_at {α : Type} {xs : List α} {i : Int} {x : α} (h0 : 0 ≤ i) (h : xs[i.toNat]? = some x) : atI xs i = some x := by
  have := atI_nat h
  rwa [Int.toNat_of_nonneg h0] at this
theorem atI_lt {xs : List Int} {i : Int} (h0 : 0 ≤ i) (h : i < xs.length) : ∃ x, atI xs i = some x ∧ xs[i.toNat]? = some x ∧ x ∈ xs := by
  have hi : i.toNat < xs.length := by omega
  exact ⟨xs[i.toNat], atI_at h0 (List.getElem?_eq_getElem hi), List.getElem?_eq_getElem hi, List.getElem_mem hi⟩
/- cells at the end -/
@[simp] theorem last_get {S : AH} {c : Cell} : (S ++ [c])[S.length]? = some c := by simp
@[simp] theorem last_set {S : AH} {c d : Cell} : (S ++ [c]).set S.length d = S ++ [d] := by
  rw [List.set_append_right _ _ (Nat.le_refl _), Nat.sub_self]; rfl
@[simp] theorem last_take {S : AH} {c : Cell} : (S ++ [c]).take S.length = S := by simp
theorem append_c {n : Nat} {xs : List PV} {x : PV} {S : AH} (h : S[n]? = some (.lst xs)) (z : xs.length < 16777216) : appendM (.c n) [.p x] S = some (.p .non, S.set n (.lst (xs ++ [x]))) := by
  unfold appendM
  simp only [h]
  rw [if_pos z]
theorem litems_c {n : Nat} {xs : List PV} {S : AH} (h : S[n]? = some (.lst xs)) : litems (.c n) S = some xs := by
  unfold litems
  simp only [h]
@[simp] theorem litems_lst {xs : List PV} {S : AH} : litems (.p (.lst xs)) S = some xs := rfl
/-- append to the last cell -/
theorem ev_append {fs : Sig → AH → Res (List DV)} {δ : Sig} {S S' : AH} {n : Nat} {xs : List PV} {x : PV} (h : S[n]? = some (.lst xs)) (e : fs δ S = .ok [.p x] S') (h' : S'[n]? = some (.lst xs)) (z : xs.length < 16777216) :
    kMeth appendM fs δ (.c n) S = .ok (.p .non) (S'.set n (.lst (xs ++ [x]))) := by
  rw [ev_kMeth (litems_c h), e]
  simp only [Res.bind_ok, ev_kMeth2]
  rw [append_c h' z, lift_some]
theorem cutL_map {α β : Type} (f : α → β) (xs : List α) (lo hi : Option Int) : cutL (xs.map f) lo hi = (cutL xs lo hi).map f := by
  unfold cutL
  rw [List.length_map, List.map_take, List.map_drop]
end
end DL
namespace DL
noncomputable section
open PySem L2
section
variable {δ : Sig} {S : AH} {fb : Sig → AH → Out} {q : Pat} {fc : Sig → AH → Res Bool} {fe : Sig → AH → Res DV} {fs : Sig → AH → Res (List DV)}
/-- an invariant of a for loop -/
theorem for_rule (P : List DV → Sig → AH → Prop) {xs : List DV} (h0 : P xs δ S) (step : ∀ x xs δ S, P (x :: xs) δ S → ∃ δ1, q.set x δ = some δ1 ∧ ∃ δ2 S2, fb δ1 S = .nx δ2 S2 ∧ P xs δ2 S2) : ∃ δ' S', forGo ckT q fb xs δ S = .nx δ' S' ∧ P [] δ' S' := by
  induction xs generalizing δ S with
  | nil => exact ⟨δ, S, for_nil, h0⟩
  | cons x xs ih =>
    obtain ⟨δ1, h1, δ2, S2, h2, h3⟩ := step x xs δ S h0
    obtain ⟨δ', S', h4, h5⟩ := ih h3
    exact ⟨δ', S', by rw [for_cons h1, h2, after_nx, h4], h5⟩
theorem rangeI_eq (lo : Int) (n : Nat) : rangeI lo n = (List.range n).map fun (i : Nat) => DV.p (.int (lo + (i : Int))) := rfl
@[simp] theorem rangeI_len (lo : Int) (n : Nat) : (rangeI lo n).length = n := by rw [rangeI_eq]; simp
theorem lc_rmap {i : Nat} {lo : Int} {n : Nat} (g : Nat → PV) (h : ∀ k < n, fe (δ.set i (some (.p (.int (lo + (k : Int)))))) S = .ok (.p (g k)) S) : lcGo ckT (.nm i) dYes fe δ (rangeI lo n) S = .ok ((List.range n).map g) S := by
  induction n generalizing lo g with
  | zero => exact lc_nil trivial
  | succ n ih =>
    rw [range_succ, lc_take trivial rfl rfl (h 0 (by omega) |> fun k => by simpa using k)]
    rw [ih (fun k => g (k + 1)) fun k hk => by
      have := h (k + 1) (by omega)
      rwa [show lo + ((k + 1 : Nat) : Int) = lo + 1 + (k : Int) by omega] at this]
    rw [Res.bind_ok, ev_kLcC, List.range_succ_eq_map, List.map_cons, List.map_map]
    rfl
theorem lc_rfilter {i : Nat} {lo : Int} {n : Nat} (p : Nat → Bool) (g : Nat → PV) (hc : ∀ k < n, fc (δ.set i (some (.p (.int (lo + (k : Int)))))) S = .ok (p k) S) (h : ∀ k < n, p k = true → fe (δ.set i (some (.p (.int (lo + (k : Int)))))) S = .ok (.p (g k)) S) : lcGo ckT (.nm i) fc fe δ (rangeI lo n) S = .ok (((List.range n).filter p).map g) S := by
  induction n generalizing lo g p with
  | zero => exact lc_nil trivial
  | succ n ih =>
    have ih' := ih (lo := lo + 1) (fun k => p (k + 1)) (fun k => g (k + 1)) (fun k hk => by
      have := hc (k + 1) (by omega)
      rwa [show lo + ((k + 1 : Nat) : Int) = lo + 1 + (k : Int) by omega] at this) (fun k hk e => by
      have := h (k + 1) (by omega) e
      rwa [show lo + ((k + 1 : Nat) : Int) = lo + 1 + (k : Int) by omega] at this)
    have c0 : fc (δ.set i (some (.p (.int lo)))) S = .ok (p 0) S := by simpa using hc 0 (by omega)
    have e2 : ((List.range (n + 1)).filter p).map g = (if p 0 = true then [g 0] else []) ++ ((List.range n).filter fun k => p (k + 1)).map (fun k => g (k + 1)) := by
      rw [List.range_succ_eq_map, List.filter_cons]
      have : ((List.range n).map Nat.succ).filter p = ((List.range n).filter fun k => p (k + 1)).map Nat.succ := by
        rw [List.filter_map]; rfl
      split <;> rename_i hp
      · rw [this]
        simp [List.map_map, Function.comp_def]
      · rw [this]
        simp [List.map_map, Function.comp_def]
    rw [range_succ, e2]
    cases e : p 0 with
    | true =>
      rw [e] at c0
      have h0 : fe (δ.set i (some (.p (.int lo)))) S = .ok (.p (g 0)) S := by simpa using h 0 (by omega) e
      rw [lc_take trivial rfl c0 h0, ih', Res.bind_ok, ev_kLcC]
      rfl
    | false =>
      rw [e] at c0
      rw [lc_skip trivial rfl c0, ih']
      rfl
theorem range_one {n k0 : Nat} {p : Nat → Bool} (h : k0 < n) (hp : ∀ k < n, p k = true ↔ k = k0) : (List.range n).filter p = [k0] := by
  have e : (List.range n).filter p = (List.range n).filter (fun k => k == k0) := List.filter_congr fun k hk => by
    have := hp k (List.mem_range.mp hk)
    cases e : p k with
    | true => rw [e] at this; simp [this.mp rfl]
    | false =>
      rw [e] at this
      have : ¬ k = k0 := fun c => Bool.false_ne_true (this.mpr c)
      simp [this]
  rw [e]
  clear e hp
  induction n with
  | zero => omega
  | succ n ih =>
    rw [List.range_succ, List.filter_append]
    by_cases z : k0 = n
    · subst z
      have : (List.range k0).filter (fun k => k == k0) = [] := List.filter_eq_nil_iff.mpr fun k hk => by
        have := List.mem_range.mp hk
        simp; omega
      rw [this]; simp
    · rw [ih (by omega)]
      have : ¬ n = k0 := fun c => z c.symm
      simp [this]
theorem kMeth_c {o : OpM} {n : Nat} {xs : List PV} (h : S[n]? = some (.lst xs)) : kMeth o fs δ (.c n) S = (fs δ S).bind (kMeth2 o (.c n)) := ev_kMeth (litems_c h)
@[simp] theorem kMeth_last {o : OpM} {xs : List PV} : kMeth o fs δ (.c S.length) (S ++ [.lst xs]) = (fs δ (S ++ [.lst xs])).bind (kMeth2 o (.c S.length)) := kMeth_c last_get
theorem append_last {xs : List PV} {x : PV} (z : xs.length < 16777216) : appendM (.c S.length) [.p x] (S ++ [.lst xs]) = some (.p .non, S ++ [.lst (xs ++ [x])]) := by
  rw [append_c last_get z, last_set]
theorem setIx_c {n k : Nat} {xs : List PV} {x : PV} (h : S[n]? = some (.lst xs)) (hk : k < xs.length) : setIx (.c n) (.p (.int (k : Int))) (.p x) S = some (S.set n (.lst (xs.set k x))) := by
  have e : ixN xs.length (k : Int) = some k := by
    unfold ixN
    rw [if_pos (by omega), if_pos (by omega), Int.toNat_natCast]
  unfold setIx
  simp only [h, e, Option.map_some]
theorem tupleO_last {xs : List PV} : tupleO [.c S.length] (S ++ [.lst xs]) = some (.p (.tup xs), S ++ [.lst xs]) := tupleO_c last_get
@[simp] theorem gc_last {xs : List PV} {d : PV} {keep : Bool} : gcK S keep (.rt (.p d) (S ++ [.lst xs])) = .ok (.p d) S := by
  rw [gc_rt (okC_app _ _ _), last_take]
end
@[simp] theorem kLst5 {x0 x1 x2 x3 x4 : PV} {S : AH} : kLst [.p x0, .p x1, .p x2, .p x3, .p x4] S = .ok [x0, x1, x2, x3, x4] S := (rfl)
@[simp] theorem kLst6 {x0 x1 x2 x3 x4 x5 : PV} {S : AH} : kLst [.p x0, .p x1, .p x2, .p x3, .p x4, .p x5] S = .ok [x0, x1, x2, x3, x4, x5] S := (rfl)
@[simp] theorem kLst7 {x0 x1 x2 x3 x4 x5 x6 : PV} {S : AH} : kLst [.p x0, .p x1, .p x2, .p x3, .p x4, .p x5, .p x6] S = .ok [x0, x1, x2, x3, x4, x5, x6] S := (rfl)
@[simp] theorem kLst8 {x0 x1 x2 x3 x4 x5 x6 x7 : PV} {S : AH} : kLst [.p x0, .p x1, .p x2, .p x3, .p x4, .p x5, .p x6, .p x7] S = .ok [x0, x1, x2, x3, x4, x5, x6, x7] S := (rfl)
@[simp] theorem kLst9 {x0 x1 x2 x3 x4 x5 x6 x7 x8 : PV} {S : AH} : kLst [.p x0, .p x1, .p x2, .p x3, .p x4, .p x5, .p x6, .p x7, .p x8] S = .ok [x0, x1, x2, x3, x4, x5, x6, x7, x8] S := (rfl)
@[simp] theorem kLst10 {x0 x1 x2 x3 x4 x5 x6 x7 x8 x9 : PV} {S : AH} : kLst [.p x0, .p x1, .p x2, .p x3, .p x4, .p x5, .p x6, .p x7, .p x8, .p x9] S = .ok [x0, x1, x2, x3, x4, x5, x6, x7, x8, x9] S := (rfl)
@[simp] theorem kLst11 {x0 x1 x2 x3 x4 x5 x6 x7 x8 x9 x10 : PV} {S : AH} : kLst [.p x0, .p x1, .p x2, .p x3, .p x4, .p x5, .p x6, .p x7, .p x8, .p x9, .p x10] S = .ok [x0, x1, x2, x3, x4, x5, x6, x7, x8, x9, x10] S := (rfl)
@[simp] theorem kLst12 {x0 x1 x2 x3 x4 x5 x6 x7 x8 x9 x10 x11 : PV} {S : AH} : kLst [.p x0, .p x1, .p x2, .p x3, .p x4, .p x5, .p x6, .p x7, .p x8, .p x9, .p x10, .p x11] S = .ok [x0, x1, x2, x3, x4, x5, x6, x7, x8, x9, x10, x11] S := (rfl)
@[simp] theorem kLst13 {x0 x1 x2 x3 x4 x5 x6 x7 x8 x9 x10 x11 x12 : PV} {S : AH} : kLst [.p x0, .p x1, .p x2, .p x3, .p x4, .p x5, .p x6, .p x7, .p x8, .p x9, .p x10, .p x11, .p x12] S = .ok [x0, x1, x2, x3, x4, x5, x6, x7, x8, x9, x10, x11, x12] S := (rfl)
@[simp] theorem kTup5 {x0 x1 x2 x3 x4 : PV} {S : AH} : DL.kTup [.p x0, .p x1, .p x2, .p x3, .p x4] S = .ok (.p (.tup [x0, x1, x2, x3, x4])) S := (rfl)
@[simp] theorem kTup6 {x0 x1 x2 x3 x4 x5 : PV} {S : AH} : DL.kTup [.p x0, .p x1, .p x2, .p x3, .p x4, .p x5] S = .ok (.p (.tup [x0, x1, x2, x3, x4, x5])) S := (rfl)
@[simp] theorem kTup7 {x0 x1 x2 x3 x4 x5 x6 : PV} {S : AH} : DL.kTup [.p x0, .p x1, .p x2, .p x3, .p x4, .p x5, .p x6] S = .ok (.p (.tup [x0, x1, x2, x3, x4, x5, x6])) S := (rfl)
theorem listF_tup {xs : List PV} {S : AH} : listF [.p (.tup xs)] S = some xs := (rfl)
theorem addO_lst {xs ys : List PV} {S : AH} (h : xs.length + ys.length ≤ 16777216) : addO (.p (.lst xs)) (.p (.lst ys)) S = some (.p (.lst (xs ++ ys)), S) := by
  show (if xs.length + ys.length ≤ sizeLine then _ else _) = _
  rw [if_pos (by rw [show sizeLine = 16777216 by decide]; exact h)]
theorem mulO_tup {xs : List PV} {k : Int} {S : AH} (h : xs ≠ [] ∧ 2 ≤ k ∧ k ≤ 1000 ∧ xs.length ≤ 1000) : mulO (.p (.tup xs)) (.p (.int k)) S = some (.p (.tup (List.replicate k.toNat xs).flatten), S) := by
  show (if xs ≠ [] ∧ 2 ≤ k ∧ k ≤ 1000 ∧ xs.length ≤ 1000 then _ else _) = _
  rw [if_pos h]
/- try -/
def tryOf (sub : Str → Option Bool) (fs : Sig → AH → Out) (o : Out) : Out := match o with
  | .exc c p δ' S' => match sub c with
    | some true => (fs δ' S').nox
    | some false => .exc c p δ' S'
    | none => .bad
  | o => o
@[simp] theorem ev_try {sub : Str → Option Bool} {fb fs : Sig → AH → Out} {δ : Sig} {S : AH} : dTry sub fb fs δ S = tryOf sub fs (fb δ S) := by
  unfold dTry tryOf
  rfl
@[simp] theorem try_nx {sub : Str → Option Bool} {fs : Sig → AH → Out} {δ : Sig} {S : AH} : tryOf sub fs (.nx δ S) = .nx δ S := (rfl)
@[simp] theorem try_rt {sub : Str → Option Bool} {fs : Sig → AH → Out} {d : DV} {S : AH} : tryOf sub fs (.rt d S) = .rt d S := (rfl)
theorem try_exc {sub : Str → Option Bool} {fs : Sig → AH → Out} {c : Str} {p : List (Str × PV)} {δ : Sig} {S : AH} (h : sub c = some true) : tryOf sub fs (.exc c p δ S) = (fs δ S).nox := by
  unfold tryOf
  simp only [h]
@[simp] theorem onox_nx {δ : Sig} {S : AH} : (Out.nx δ S).nox = .nx δ S := (rfl)
@[simp] theorem onox_rt {d : DV} {S : AH} : (Out.rt d S).nox = .rt d S := (rfl)
theorem sorted_tup {ns : List Int} {S : AH} : sortedF [.p (.tup (ns.map PV.int))] S = some ((sortI ns).map PV.int) := by
  unfold sortedF
  simp only [intsOf_map]
theorem kAppF_some {o : OpF} {ds : List DV} {ps : List PV} {S : AH} (h : o ds S = some ps) : kAppF o ds S = .ok ps S := by
  unfold kAppF
  simp only [h]
/- two cells at the end -/
section
variable {R : AH} {A B : Cell} {δ : Sig} {fs : Sig → AH → Res (List DV)}
@[simp] theorem two_get0 : (R ++ [A, B])[R.length]? = some A := by simp
@[simp] theorem two_get1 : (R ++ [A, B])[R.length + 1]? = some B := by
  rw [List.getElem?_append_right (by omega), Nat.add_sub_cancel_left]; rfl
@[simp] theorem two_set0 {C : Cell} : (R ++ [A, B]).set R.length C = R ++ [C, B] := by
  rw [List.set_append_right _ _ (Nat.le_refl _), Nat.sub_self]; rfl
@[simp] theorem two_set1 {C : Cell} : (R ++ [A, B]).set (R.length + 1) C = R ++ [A, C] := by
  rw [List.set_append_right _ _ (by omega), Nat.add_sub_cancel_left]; rfl
@[simp] theorem two_take : (R ++ [A, B]).take R.length = R := by simp
@[simp] theorem kMeth_two0 {o : OpM} {xs : List PV} : kMeth o fs δ (.c R.length) (R ++ [.lst xs, B]) = (fs δ (R ++ [.lst xs, B])).bind (kMeth2 o (.c R.length)) := kMeth_c two_get0
@[simp] theorem kMeth_two1 {o : OpM} {xs : List PV} : kMeth o fs δ (.c (R.length + 1)) (R ++ [A, .lst xs]) = (fs δ (R ++ [A, .lst xs])).bind (kMeth2 o (.c (R.length + 1))) := kMeth_c two_get1
@[simp] theorem kMeth0_two0 {o : OpM} {xs : List PV} : kMeth0 o (.c R.length) (R ++ [.lst xs, B]) = lift (o (.c R.length) [] (R ++ [.lst xs, B])) := ev_kMeth0 (litems_c two_get0)
@[simp] theorem kMeth0_two1 {o : OpM} {xs : List PV} : kMeth0 o (.c (R.length + 1)) (R ++ [A, .lst xs]) = lift (o (.c (R.length + 1)) [] (R ++ [A, .lst xs])) := ev_kMeth0 (litems_c two_get1)
theorem append_two0 {xs : List PV} {x : PV} (z : xs.length < 16777216) : appendM (.c R.length) [.p x] (R ++ [.lst xs, B]) = some (.p .non, R ++ [.lst (xs ++ [x]), B]) := by
  rw [append_c two_get0 z, two_set0]
theorem append_two1 {xs : List PV} {x : PV} (z : xs.length < 16777216) : appendM (.c (R.length + 1)) [.p x] (R ++ [A, .lst xs]) = some (.p .non, R ++ [A, .lst (xs ++ [x])]) := by
  rw [append_c two_get1 z, two_set1]
theorem pop_c {n : Nat} {xs : List PV} {y : PV} {S : AH} (h : S[n]? = some (.lst (xs ++ [y]))) : popM (.c n) [] S = some (.p y, S.set n (.lst xs)) := by
  unfold popM
  simp [h]
@[simp] theorem pop_two0 {xs : List PV} {y : PV} : popM (.c R.length) [] (R ++ [.lst (xs ++ [y]), B]) = some (.p y, R ++ [.lst xs, B]) := by
  rw [pop_c two_get0, two_set0]
@[simp] theorem pop_two1 {xs : List PV} {y : PV} : popM (.c (R.length + 1)) [] (R ++ [A, .lst (xs ++ [y])]) = some (.p y, R ++ [A, .lst xs]) := by
  rw [pop_c two_get1, two_set1]
@[simp] theorem len_two0 {xs : List PV} : lenO [.c R.length] (R ++ [.lst xs, B]) = some (.p (.int xs.length), R ++ [.lst xs, B]) := lenO_c two_get0
@[simp] theorem len_two1 {xs : List PV} : lenO [.c (R.length + 1)] (R ++ [A, .lst xs]) = some (.p (.int xs.length), R ++ [A, .lst xs]) := lenO_c two_get1
@[simp] theorem tuple_two0 {xs : List PV} : tupleO [.c R.length] (R ++ [.lst xs, B]) = some (.p (.tup xs), R ++ [.lst xs, B]) := tupleO_c two_get0
@[simp] theorem tuple_two1 {xs : List PV} : tupleO [.c (R.length + 1)] (R ++ [A, .lst xs]) = some (.p (.tup xs), R ++ [A, .lst xs]) := tupleO_c two_get1
end
@[simp] theorem slO_tup {xs : List PV} {lo hi : Option Int} {S : AH} : slO (.p (.tup xs)) lo hi S = some (.p (.tup (cutL xs lo hi)), S) := rfl
@[simp] theorem slO_fro {xs : List PV} {lo hi : Option Int} {S : AH} : slO (.p (.fro xs)) lo hi S = some (.p (.lst (cutL xs lo hi)), S) := rfl
@[simp] theorem slO_lst {xs : List PV} {lo hi : Option Int} {S : AH} : slO (.p (.lst xs)) lo hi S = some (.p (.lst (cutL xs lo hi)), S) := rfl
@[simp] theorem revO_tup {xs : List PV} {S : AH} : revO (.p (.tup xs)) S = some (.p (.tup xs.reverse), S) := rfl
theorem cut_from0 {α : Type} {xs : List α} {k : Nat} (h : k ≤ xs.length) : cutL xs (some (k : Int)) none = xs.drop k := by
  unfold cutL
  have e1 : HT.sIx xs.length 0 (some (k : Int)) = k := by
    rw [HT.sIx_nat]; omega
  have e2 : HT.sIx xs.length xs.length none = xs.length := rfl
  rw [e1, e2]
  exact List.take_of_length_le (by rw [List.length_drop]; omega)
theorem cut_to0 {α : Type} {xs : List α} {k : Nat} (h : k ≤ xs.length) : cutL xs none (some (k : Int)) = xs.take k := by
  unfold cutL
  have e1 : HT.sIx xs.length xs.length (some (k : Int)) = k := by
    rw [HT.sIx_nat]; omega
  have e2 : HT.sIx xs.length 0 none = 0 := rfl
  rw [e1, e2]
  rfl
theorem cut_from {α : Type} {xs : List α} {k : Nat} (h : True := trivial) : cutL xs (some (k : Int)) none = xs.drop k := by
  by_cases z : k ≤ xs.length
  · exact cut_from0 z
  · unfold cutL
    have e1 : HT.sIx xs.length 0 (some (k : Int)) = xs.length := by
      rw [HT.sIx_nat]; omega
    rw [e1, List.drop_length, List.drop_of_length_le (by omega)]
    simp
theorem cut_to {α : Type} {xs : List α} {k : Nat} (h : True := trivial) : cutL xs none (some (k : Int)) = xs.take k := by
  by_cases z : k ≤ xs.length
  · exact cut_to0 z
  · unfold cutL
    have e1 : HT.sIx xs.length xs.length (some (k : Int)) = xs.length := by
      rw [HT.sIx_nat]; omega
    have e2 : HT.sIx xs.length 0 none = 0 := rfl
    rw [e1, e2, List.take_of_length_le (by simp), List.take_of_length_le (by omega)]
    rfl
theorem small62_of {i : Int} (h : -(2 ^ 62) < i ∧ i < 2 ^ 62) : small62 i := by
  unfold small62
  omega
end
end DL
namespace DL
noncomputable section
open PySem PySem.Spec PyProof.Rows L2
/-! ### nests: lists whose items are cells -/
def WK (M : Wd) (E : XK) (as : As) (H : Hp) (r : Res (List Nat)) (Q : VK) : Prop := match r with
  | .ok ks S' => ∀ as' H' p vs, Ext as H as' H' → SR M as' H' S' → vs.length ≤ sizeLine → KRs as' vs ks → H' p = none → Q (.ref p) (upd H' p (.lst vs))
  | .exc c p S' => ∀ as' H' cls dd, Ext as H as' H' → SR M as' H' S' → ExR M as' H' c p cls dd → E cls dd H'
  | .bad => False
def dNest (f : Sig → AH → Res (List Nat)) : Sig → AH → Res DV := fun δ S => (f δ S).bind fun ks S => .ok (.c S.length) (S ++ [.nst ks])
section
variable {M : Wd} {E0 E1 : XK} {as as' : As} {H H' : Hp} {α β : Type} {R : As → Hp → β → α → Prop}
theorem WK.later {r : Res (List Nat)} {Q : VK} (x : Ext as H as' H') (w : WK M E0 as H r Q) : WK M E0 as' H' r Q := by
  cases r with
  | ok a S => exact fun as2 H2 p vs e => w as2 H2 p vs (x.trans e)
  | exc c p S => exact fun as2 H2 cls dd e => w as2 H2 cls dd (x.trans e)
  | bad => exact w
theorem WK.bind {r : Res α} {k : α → AH → Res (List Nat)} {Q : VK} (w : WK M E0 as H (r.bind k) Q) :
    WR M E0 R as H r (fun b H1 => ∃ as1 S1 a, r = .ok a S1 ∧ Ext as H as1 H1 ∧ SR M as1 H1 S1 ∧ R as1 H1 b a ∧ WK M E0 as1 H1 (k a S1) Q) := by
  cases r with
  | ok a S => exact fun as2 H2 b e s q => ⟨as2, S, a, rfl, e, s, q, WK.later e w⟩
  | exc c p S => exact w
  | bad => exact w
theorem WK.here {S : AH} {ks : List Nat} {Q : VK} {p : Addr} {vs : List V} (w : WK M E0 as H (.ok ks S) Q) (s : SR M as H S) (z : vs.length ≤ sizeLine) (r : KRs as vs ks) (n : H p = none) : Q (.ref p) (upd H p (.lst vs)) := w as H p vs (Ext.refl _ _) s z r n
theorem WK.nest {r : Res (List Nat)} {Q : VK} (w : WR M E0 (DVR M) as H (r.bind fun ks S => .ok (.c S.length) (S ++ [.nst ks])) Q) : WK M E0 as H r Q := by
  cases r with
  | ok ks S => exact fun as2 H2 p vs e s z t n => w (as2.add p) _ _ (e.trans (ext_cell s n)) (s.newNest n z t) ⟨p, by rw [← s.len]; simp [As.add], rfl⟩
  | exc c p S => exact w
  | bad => exact w
end
def tK (M : Wd) (E : L2.St → XK) (f : Sig → AH → Res (List Nat)) : TE := fun σ H Q => ∃ as δ S, SR M as H S ∧ ER M as H σ δ ∧ WK M (E σ) as H (f δ S) Q
/-- a new list whose items are cells -/
abbrev FK (X : Cx) (E : L2.St → XK) (e : Expr) (f : Sig → AH → Res (List Nat)) : Prop := PE X e (tK (wd X) E f)
theorem de_nest {X : Cx} {E : L2.St → XK} {e : Expr} {f : Sig → AH → Res (List Nat)} (h : FK X E e f) : DE X E e (dNest f) := h.imp fun σ H Q ⟨as, δ, S, sr, er, w⟩ => ⟨as, δ, S, sr, er, WK.nest w⟩
def cells : List DV → Option (List Nat)
  | [] => some []
  | .c k :: r => (cells r).map fun t => k :: t
  | .p _ :: _ => none
theorem cells_ok {M : Wd} {as : As} {H : Hp} : ∀ {ds : List DV} {vs : List V} {ks : List Nat}, DVRs M as H vs ds → cells ds = some ks → KRs as vs ks
  | [], _, _, .nil, e => by cases e; exact .nil
  | .c k :: r, _, _, .cons h t, e => by
    simp only [cells, Option.map_eq_some_iff] at e
    obtain ⟨qs, e1, rfl⟩ := e
    exact .cons h (cells_ok t e1)
  | .p _ :: _, _, _, _, e => by cases e
def dLstK (fs : Sig → AH → Res (List DV)) : Sig → AH → Res (List Nat) := fun δ S => (fs δ S).bind fun ds S => match cells ds with
  | some ks => if ks.length ≤ 1000 then .ok ks S else .bad
  | none => .bad
theorem fk_lst {X : Cx} {E : L2.St → XK} {es : List Expr} {pos : Pos} {fs : Sig → AH → Res (List DV)} (h : DA X E es fs) : FK X E (.List es pos) (dLstK fs) := (pe_lst h).imp fun σ H Q ⟨as, δ, S, sr, er, w⟩ =>
  ⟨as, δ, S, sr, er, (WK.bind w).mono fun _ _ _ _ vs _ _ _ _ ⟨as1, S1, ds, _, x1, s1, r1, w1⟩ => by
    split at w1
    · rename_i ks e
      split at w1
      · rename_i z
        have t := cells_ok r1 e
        have z2 : vs.length ≤ sizeLine := by rw [t.length]; exact le1000 z
        exact ⟨z2, fun p n => w1.here s1 z2 t n⟩
      · exact w1.elim
    · exact w1.elim⟩
open Classical in
def lcGoK (ck : AH → Prop) (q : Pat) (fc : Sig → AH → Res Bool) (fe : Sig → AH → Res DV) (δ : Sig) : List DV → AH → Res (List Nat)
  | [], S => if ck S then .ok [] S else .bad
  | x :: xs, S => if ck S then match q.set x δ with
    | none => .bad
    | some δ2 => (fc δ2 S).nox.bind fun b S1 => if b = true then (fe δ2 S1).nox.bind fun d S2 => match d with
        | .c y => (lcGoK ck q fc fe δ xs S2).bind fun ys S3 => .ok (y :: ys) S3
        | .p _ => .bad
      else lcGoK ck q fc fe δ xs S1
    else .bad
def dLcK (fi : Sig → AH → Res Its') (q : Pat) (fc : Sig → AH → Res Bool) (fe : Sig → AH → Res DV) (vs : List Nat) : Sig → AH → Res (List Nat) := fun δ S => (fi δ S).bind fun x S1 => if x.1.length ≤ 16777216 then lcGoK x.2 q fc fe (wipeD δ vs) x.1 S1 else .bad
section
variable {X : Cx} {E : L2.St → XK} {elt tg iter : Expr} {ifs : List Expr} {scope : Scope} {own : List (Str × Nat)} {pos : Pos} {fi : Sig → AH → Res Its'} {q : Pat} {fc : Sig → AH → Res Bool} {fe : Sig → AH → Res DV}
theorem lc_tN {σ : L2.St} {H : Hp} {Q : VK} {as : As} {δ : Sig} {S : AH} {vs : List Nat} (hq : ∀ i ∈ q.slots, i ∈ vs) (sr : SR (wd X) as H S) (er : ER (wd X) as H σ δ) (w : WK (wd X) (E σ) as H (dLcK fi q fc fe vs δ S) Q) :
    tLc (tI (wd X) E fi) (tPat X.K q) (tDT (wd X) EN fc) (tD (wd X) EN fe) vs σ H Q := by
  refine ⟨as, δ, S, sr, er, (WK.bind w).mono fun _ _ _ H1 J _ _ _ _ ⟨as1, S1, x, _, e1, s1, y1, w1⟩ => ?_⟩
  obtain ⟨xs, ck⟩ := x
  intro D nD
  have er1 := er.mono e1.w
  have nh : ¬ as1.hid D := (s1.fresh nD).2
  dsimp only at w1 y1
  have hz : xs.length ≤ 16777216 := by
    refine Classical.byContradiction fun n => ?_
    rw [if_neg n] at w1
    exact w1
  rw [if_pos hz] at w1
  refine ⟨fun i m H => m = xs.length - i ∧ i ≤ xs.length ∧ ∃ (asm : As) (Sm : AH) (accV : List V) (accP : List Nat), H D = some (.lst accV) ∧ accV.length ≤ i ∧ Ext as1 H1 asm (del H D) ∧ SR (wd X) asm (del H D) Sm ∧ KRs asm accV accP ∧
      WK (wd X) (E σ) asm (del H D) ((lcGoK ck q fc fe (wipeD δ vs) (xs.drop i) Sm).bind fun ys S => .ok (accP ++ ys) S) Q, ⟨xs.length, rfl, Nat.zero_le _, as1, S1, [], [], upd_same, Nat.zero_le _, ?_⟩, ?_⟩
  · rw [del_upd nD]
    refine ⟨Ext.refl _ _, s1, .nil, ?_⟩
    rw [List.drop_zero]
    have e : ((lcGoK ck q fc fe (wipeD δ vs) xs S1).bind fun ys S => Res.ok ([] ++ ys) S) = lcGoK ck q fc fe (wipeD δ vs) xs S1 := by
      cases lcGoK ck q fc fe (wipeD δ vs) xs S1 <;> rfl
    rw [e]
    exact w1
  · rintro i m H2 ⟨rfl, hi, asm, Sm, accV, accP, hD, hlen, em, sm, tm, wm⟩
    have eH : upd (del H2 D) D (.lst accV) = H2 := upd_del hD
    have nm : del H2 D D = none := del_same _ _
    have nhm : ¬ asm.hid D := by rw [em.hids]; exact nh
    have sh : SR (wd X) (asm.hide D) H2 Sm := by have := sm.hide (o := .lst accV) nm; rw [eH] at this; exact this
    have xw : Exw as1 H1 (asm.hide D) H2 := by have := em.w.hide (o := .lst accV) nD; rw [eH] at this; exact this
    by_cases hlt : i < xs.length
    · have hx : xs[i]? = some xs[i] := List.getElem?_eq_getElem hlt
      have hd : xs.drop i = xs[i] :: xs.drop (i + 1) := List.drop_eq_getElem_cons hlt
      rw [hd] at wm
      unfold lcGoK at wm
      have hck : ck Sm := by
        refine Classical.byContradiction fun n => ?_
        rw [if_neg n] at wm
        exact wm
      rw [if_pos hck] at wm
      refine .inr ⟨y1.go _ _ _ xw sh hck i hlt, fun H' => (i + 1 ≤ xs.length ∧ ∃ (asm : As) (Sm : AH) (accV : List V) (accP : List Nat), H' D = some (.lst accV) ∧ accV.length ≤ i + 1 ∧ Ext as1 H1 asm (del H' D) ∧ SR (wd X) asm (del H' D) Sm ∧ KRs asm accV accP ∧
        WK (wd X) (E σ) asm (del H' D) ((lcGoK ck q fc fe (wipeD δ vs) (xs.drop (i + 1)) Sm).bind fun ys S => .ok (accP ++ ys) S) Q), fun H' n => ⟨xs.length - (i + 1), by omega, rfl, n.1, n.2⟩, fun v H' yv => ?_⟩
      obtain ⟨e3, s3, r3⟩ := y1.yld _ _ _ xw sh hck i _ v H' hx yv
      cases eq : q.set xs[i] (wipeD δ vs) with
      | none => rw [eq] at wm; exact wm.elim
      | some δ2 =>
        rw [eq] at wm
        dsimp only at wm
        rw [bind_assoc'] at wm
        have erh : ER (wd X) (asm.hide D) H' (L2.wipe σ vs) (wipeD δ vs) := ((er1.mono xw).wipe vs).mono e3.w
        refine tPat_ok (M := wd X) q erh r3 eq fun σ2 er2 wi2 => ⟨by rw [wi2 vs hq, wipe_idem], ?_⟩
        obtain ⟨b, Sb, eb, wb⟩ := nox_cases (fun r => WK (wd X) (E σ) asm (del H2 D) r Q) (fun z => z) wm
        refine ⟨asm.hide D, δ2, Sm, s3, er2, ?_⟩
        rw [eb]
        intro as4 H4 b4 e4 s4 q4
        cases q4
        have ec : Ext (asm.hide D) (upd (del H2 D) D (.lst accV)) as4 H4 := by rw [eH]; exact e3.trans e4
        cases b with
        | false =>
          rw [if_neg Bool.false_ne_true] at wb ⊢
          obtain ⟨u1, u2, u3⟩ := Ext.unhide nm nhm ec
          rw [u2] at s4
          exact ⟨hlt, ⟨as4.cells, asm.hid⟩, Sb, accV, accP, u3, by omega, em.trans u1, s4.unhide nhm ⟨_, u3⟩, tm.mono u1.w, WK.later u1 wb⟩
        | true =>
          rw [if_pos rfl] at wb ⊢
          rw [bind_assoc'] at wb
          obtain ⟨d, Sd, ed, wd'⟩ := nox_cases (fun r => WK (wd X) (E σ) asm (del H2 D) r Q) (fun z => z) wb
          refine ⟨as4, δ2, Sb, s4, er2.mono e4.w, ?_⟩
          rw [ed]
          intro as5 H5 y e5 s5 r5
          have ec5 : Ext (asm.hide D) (upd (del H2 D) D (.lst accV)) as5 H5 := ec.trans e5
          obtain ⟨u1, u2, u3⟩ := Ext.unhide nm nhm ec5
          rw [u2] at s5 r5
          cases d with
          | p n => exact wd'.elim
          | c yv =>
            obtain ⟨bb, eb2, rfl⟩ := r5
            refine ⟨accV, u3, ?_, hlt, ⟨as5.cells, asm.hid⟩, Sd, accV ++ [.ref bb], accP ++ [yv], upd_same, by rw [List.length_append, List.length_singleton]; omega, ?_⟩
            · have hs : sizeLine = 16777216 := by decide
              omega
            rw [del_updu]
            refine ⟨em.trans u1, s5.unhide nhm ⟨_, u3⟩, (tm.mono u1.w).append (.cons ⟨bb, eb2, rfl⟩ .nil), ?_⟩
            have e : ((lcGoK ck q fc fe (wipeD δ vs) (xs.drop (i + 1)) Sd).bind fun ys S => Res.ok (accP ++ [yv] ++ ys) S) = ((lcGoK ck q fc fe (wipeD δ vs) (xs.drop (i + 1)) Sd).bind fun ys S => Res.ok (yv :: ys) S).bind fun ys S => Res.ok (accP ++ ys) S := by
              cases lcGoK ck q fc fe (wipeD δ vs) (xs.drop (i + 1)) Sd <;> simp [Res.bind]
            rw [e]
            exact WK.later u1 wd'
    · have hi' : i = xs.length := by omega
      subst hi'
      rw [List.drop_length] at wm
      unfold lcGoK at wm
      have hck : ck Sm := by
        refine Classical.byContradiction fun n => ?_
        rw [if_neg n] at wm
        exact wm
      rw [if_pos hck] at wm
      refine .inl ⟨y1.stop _ _ _ xw sh hck, ?_⟩
      have wq : WK (wd X) (E σ) asm (del H2 D) (Res.ok (accP ++ []) Sm) Q := wm
      rw [List.append_nil] at wq
      have := wq.here sm (by have hs : sizeLine = 16777216 := by decide
                             omega) tm nm
      rw [eH] at this
      exact this
theorem fk_lc (g : Gd X E) (hN : X.N.Nodup) (hi : DI X E tg iter fi) (ok : BlkOk X.N X.env.scope scope own)
    (hg : ∀ (s : Shared) (H : Hp) (C : Addr) (cl : List (Str × Addr)) (fp : List Addr), DG (X.blk s H scope (compEnvC scope cl C X.env) fp) tg q) (ht : ∀ (s : Shared) (H : Hp) (C : Addr) (cl : List (Str × Addr)) (fp : List Addr), DTs (X.blk s H scope (compEnvC scope cl C X.env) fp) EN ifs fc)
    (he : ∀ (s : Shared) (H : Hp) (C : Addr) (cl : List (Str × Addr)) (fp : List Addr), DE (X.blk s H scope (compEnvC scope cl C X.env) fp) EN elt fe) (hq : ∀ i ∈ q.slots, i ∈ own.map (·.2)) (hs : ∀ x, foldedSetIterable iter X.env x = pure x := by intro _; rfl) :
    FK X E (.ListComp elt [⟨tg, iter, ifs, 0⟩] scope pos) (dLcK fi q fc fe (own.map (·.2))) :=
  L2.PE.imp (pe_lc g.calm hN hi ok hg ht he hs) fun σ H Q ⟨as, δ, S, sr, er, w⟩ => lc_tN hq sr er w
/-- y = [.. for ..], cells in it -/
def dSetN (i : Nat) (f : Sig → AH → Res (List Nat)) : Sig → AH → Out := fun δ S => (dNest f δ S).out δ fun d S => .nx (δ.set i (some d)) S
theorem ds_setLcN {i : Nat} {y : Str} {py spos : Pos} (g : Gd X E) (hN : X.N.Nodup) (hy : X.N[i]? = some y) (hyl : X.env.scope.names.lookup y = some .local)
    (hsw : swapsWith (.ListComp elt [⟨tg, iter, ifs, 0⟩] scope pos) (some (.Name y py)) spos.line X.env = pure true) (hi : DI X E tg iter fi) (ok : BlkOk X.N X.env.scope scope own)
    (hg : ∀ (s : Shared) (H : Hp) (C : Addr) (cl : List (Str × Addr)) (fp : List Addr), DG (X.blk s H scope (compEnvC scope cl C X.env) fp) tg q) (ht : ∀ (s : Shared) (H : Hp) (C : Addr) (cl : List (Str × Addr)) (fp : List Addr), DTs (X.blk s H scope (compEnvC scope cl C X.env) fp) EN ifs fc)
    (he : ∀ (s : Shared) (H : Hp) (C : Addr) (cl : List (Str × Addr)) (fp : List Addr), DE (X.blk s H scope (compEnvC scope cl C X.env) fp) EN elt fe) (hq : ∀ i ∈ q.slots, i ∈ own.map (·.2)) (hs : ∀ x, foldedSetIterable iter X.env x = pure x := by intro _; rfl) :
    DS X E (.Assign [.Name y py] (.ListComp elt [⟨tg, iter, ifs, 0⟩] scope pos) spos) (dSetN i (dLcK fi q fc fe (own.map (·.2)))) :=
  (ps_setLc g.calm hN hy hyl hsw hi ok hg ht he hs).imp fun D σ H ⟨as, δ, S, sr, er, w⟩ => lc_tN hq sr er (WK.nest ((w.bind er).mono fun _ _ _ _ v _ _ _ _ ⟨as1, S1, d1, _, x1, s1, r1, w1⟩ => w1.here s1 ((er.mono x1.w).set r1 i)))
end
/-! ### list(range(..)) -/
def rgI (i j : Int) : List Int := (List.range (j - i).toNat).map fun (k : Nat) => i + (k : Int)
open Classical in
def dLstRg (fa fb : Sig → AH → Res DV) : Sig → AH → Res (List PV) := fun δ S => (fa δ S).bind fun a S => (fb δ S).bind fun b S => match a, b with
  | .p (.int i), .p (.int j) => if RgOk i j then .ok ((rgI i j).map PV.int) S else .bad
  | _, _ => .bad
theorem rgV_map (i j : Int) : rgV i j = (rgI i j).map V.int := by
  unfold rgV rgI
  rw [List.map_map]
  rfl
section
variable {X : Cx} {E : L2.St → XK} {a b : Expr} {p p2 pos pos2 : Pos} {fa fb : Sig → AH → Res DV}
theorem fe_lrg2 (g : Gd X E) (hg : Gl X "list") (hm : X.mg "list" = none) (hg2 : Gl X "range") (hm2 : X.mg "range" = none) (ha : DE X E a fa) (hb : DE X E b fb) (na : starEach [a, b] X.env = (false, eval a X.env) :: starEach [b] X.env := by rfl) (nb : starEach [b] X.env = (false, eval b X.env) :: starEach [] X.env := by rfl) (hpr : (backTo pos2 (starEach [b] X.env)).any (·.1) = false := by rfl)
    (ne : starEach [.Call (.Name "range" p2) [a, b] [] pos2] X.env = (false, eval (.Call (.Name "range" p2) [a, b] [] pos2) X.env) :: starEach [] X.env := by rfl) :
    FE X E (.Call (.Name "list" p) [.Call (.Name "range" p2) [a, b] [] pos2] [] pos) (dLstRg fa fb) := (pe_listRg g.calm hg hm (prg_2 hg2 hm2 ha hb na nb hpr) ne).imp fun σ H Q ⟨as, δ, S, sr, er, w⟩ =>
  ⟨as, δ, S, sr, er, (WF.bind w).mono fun _ _ _ _ v _ _ _ _ ⟨as1, S1, d1, _, x1, s1, r1, w1⟩ => ⟨as1, δ, S1, s1, er.mono x1.w, (WF.bind w1).mono fun _ _ _ _ u _ _ _ _ ⟨as2, S2, d2, _, x2, s2, r2, w2⟩ => by
    have r1' := r1.mono x2.w
    split at w2
    · cases r1'; cases r2
      split at w2
      · rename_i z
        refine ⟨_, _, rfl, rfl, z, fun q n => ?_⟩
        rw [rgV_map]
        refine w2.here s2 ?_ (PRs.of_ints _) n
        rw [← rgV_map, rgV_length]
        exact z.2.2.2.2
      · exact w2.elim
    · exact w2.elim⟩⟩
end
end
end DL
namespace DL
noncomputable section
open PySem L2
section
variable {δ : Sig} {S : AH} {fa : Sig → AH → Res DV} {fs : Sig → AH → Res (List DV)} {fk : Sig → AH → Res (List Nat)} {q : Pat} {fi : Sig → AH → Res Its'} {fc : Sig → AH → Res Bool} {fe : Sig → AH → Res DV}
def kLstRg2 (a b : DV) (S : AH) : Res (List PV) := match a, b with
  | .p (.int i), .p (.int j) => (open Classical in if RgOk i j then .ok ((rgI i j).map PV.int) S else .bad)
  | _, _ => .bad
def kLstRg (fb : Sig → AH → Res DV) (δ : Sig) (a : DV) (S : AH) : Res (List PV) := (fb δ S).bind (kLstRg2 a)
@[simp] theorem ev_lstRg {fb : Sig → AH → Res DV} : dLstRg fa fb δ S = (fa δ S).bind (kLstRg fb δ) := (rfl)
@[simp] theorem ev_kLstRg {fb : Sig → AH → Res DV} {a : DV} : kLstRg fb δ a S = (fb δ S).bind (kLstRg2 a) := (rfl)
theorem kLstRg2_ok {i j : Int} (h : RgOk i j) : kLstRg2 (.p (.int i)) (.p (.int j)) S = .ok ((rgI i j).map PV.int) S := by
  unfold kLstRg2
  dsimp only
  rw [if_pos h]
def kNest (ks : List Nat) (S : AH) : Res DV := .ok (.c S.length) (S ++ [.nst ks])
@[simp] theorem ev_nest : dNest fk δ S = (fk δ S).bind kNest := (rfl)
@[simp] theorem ev_kNest {ks : List Nat} : kNest ks S = .ok (.c S.length) (S ++ [.nst ks]) := (rfl)
@[simp] theorem ev_setN {i : Nat} : dSetN i fk δ S = (dNest fk δ S).out δ (jSet i δ) := (rfl)
def kLstK (ds : List DV) (S : AH) : Res (List Nat) := match cells ds with
  | some ks => if ks.length ≤ 1000 then .ok ks S else .bad
  | none => .bad
@[simp] theorem ev_lstK : dLstK fs δ S = (fs δ S).bind kLstK := (rfl)
@[simp] theorem kLstK0 : kLstK [] S = .ok [] S := (rfl)
@[simp] theorem kLstK1 {a : Nat} : kLstK [.c a] S = .ok [a] S := (rfl)
@[simp] theorem kLstK2 {a b : Nat} : kLstK [.c a, .c b] S = .ok [a, b] S := (rfl)
@[simp] theorem kLstK3 {a b c : Nat} : kLstK [.c a, .c b, .c c] S = .ok [a, b, c] S := (rfl)
def kLcK (q : Pat) (fc : Sig → AH → Res Bool) (fe : Sig → AH → Res DV) (vs : List Nat) (δ : Sig) (x : Its') (S : AH) : Res (List Nat) := if x.1.length ≤ 16777216 then lcGoK x.2 q fc fe (wipeD δ vs) x.1 S else .bad
@[simp] theorem ev_lcK {vs : List Nat} : dLcK fi q fc fe vs δ S = (fi δ S).bind (kLcK q fc fe vs δ) := (rfl)
theorem ev_kLcK {vs : List Nat} {xs : List DV} {ck : AH → Prop} (h : xs.length ≤ 16777216) : kLcK q fc fe vs δ (xs, ck) S = lcGoK ck q fc fe (wipeD δ vs) xs S := by
  unfold kLcK
  rw [if_pos h]
theorem lcK_nil {ck : AH → Prop} (h : ck S) : lcGoK ck q fc fe δ [] S = .ok [] S := by
  unfold lcGoK
  rw [if_pos h]
def kLcCK (y : Nat) (ys : List Nat) (S : AH) : Res (List Nat) := .ok (y :: ys) S
theorem lcK_take {ck : AH → Prop} {x : DV} {y : Nat} {xs : List DV} {δ2 : Sig} {S1 S2 : AH} (h : ck S) (hq : q.set x δ = some δ2) (hc : fc δ2 S = .ok true S1) (he : fe δ2 S1 = .ok (.c y) S2) :
    lcGoK ck q fc fe δ (x :: xs) S = (lcGoK ck q fc fe δ xs S2).bind (kLcCK y) := by
  rw [show lcGoK ck q fc fe δ (x :: xs) S = _ from by unfold lcGoK; rfl, if_pos h]
  simp only [hq, hc, nox_ok, Res.bind_ok, if_true, he]
  rfl
/-- a comprehension of new flat lists -/
theorem lcK_cells (g : PV → List PV) : ∀ {xs : List PV} {S : AH}, (∀ x ∈ xs, ∀ S, ∃ δ2, q.set (.p x) δ = some δ2 ∧ fe δ2 S = .ok (.c S.length) (S ++ [.lst (g x)])) → lcGoK ckT q dYes fe δ (dit xs) S = .ok (List.range' S.length xs.length) (S ++ xs.map fun x => Cell.lst (g x))
  | [], S, _ => by rw [dit_nil, lcK_nil trivial]; simp
  | x :: xs, S, h => by
    obtain ⟨δ2, h1, h2⟩ := h x List.mem_cons_self S
    rw [dit_cons, lcK_take trivial h1 rfl h2, lcK_cells g fun y hy => h y (List.mem_cons_of_mem _ hy)]
    simp [kLcCK, List.range'_succ]
end
/-! ### a nest of flat lists above R -/
structure NestK (R S : AH) (n : Nat) (ks : List Nat) (rs : List (List PV)) : Prop where
  pre : S.take R.length = R
  nst : S[n]? = some (.nst ks)
  len : ks.length = rs.length
  lo : R.length ≤ n
  klo : ∀ k ∈ ks, R.length ≤ k
  nd : ks.Nodup
  nk : n ∉ ks
  row : ∀ i k, ks[i]? = some k → S[k]? = some (Cell.lst (rs.getD i []))
def Nest (R S : AH) (n : Nat) (rs : List (List PV)) : Prop := ∃ ks, NestK R S n ks rs
theorem okC_take {m : Nat} {R S : AH} (h : S.take R.length = R) : okC m R S := by
  have e : S = R ++ S.drop R.length := by
    have := List.take_append_drop R.length S
    rw [h] at this
    exact this.symm
  rw [e]
  exact okC_app m R _
theorem take_set {R S : AH} {k : Nat} {c : Cell} (h : S.take R.length = R) (hk : R.length ≤ k) : (S.set k c).take R.length = R := by
  rw [List.take_set, h, List.set_eq_of_length_le hk]
theorem take_more {R S J : AH} (h : S.take R.length = R) : (S ++ J).take R.length = R := by
  have hl : R.length ≤ S.length := by
    have := congrArg List.length h
    rw [List.length_take] at this
    omega
  rw [List.take_append_of_le_length hl, h]
section
variable {R S : AH} {n : Nat} {rs : List (List PV)}
theorem Nest.pre (h : Nest R S n rs) : S.take R.length = R := h.choose_spec.pre
theorem Nest.lenO (h : Nest R S n rs) : lenO [.c n] S = some (.p (.int rs.length), S) := by
  obtain ⟨ks, h⟩ := h
  unfold DL.lenO items nitems
  simp only [h.nst, h.len]
theorem Nest.ix (h : Nest R S n rs) {i : Nat} (hi : i < rs.length) : ∃ k, ixO (.c n) (.p (.int (i : Int))) S = some (.c k, S) ∧ S[k]? = some (Cell.lst (rs.getD i [])) ∧ R.length ≤ k ∧ k ≠ n ∧ ∀ xs, Nest R (S.set k (.lst xs)) n (rs.set i xs) := by
  obtain ⟨ks, h⟩ := h
  have hk : i < ks.length := by rw [h.len]; exact hi
  have e := List.getElem?_eq_getElem hk
  have hm : ks[i] ∈ ks := List.getElem_mem hk
  have ne : ks[i] ≠ n := fun z => h.nk (by rw [← z]; exact hm)
  refine ⟨ks[i], ?_, h.row i _ e, h.klo _ hm, ne, fun xs => ⟨ks, take_set h.pre (h.klo _ hm), by rw [List.getElem?_set_ne ne]; exact h.nst, by rw [List.length_set]; exact h.len, h.lo, h.klo, h.nd, h.nk, fun j k ej => ?_⟩⟩
  · unfold ixO items nitems
    have a : atI ks (i : Int) = some ks[i] := by
      unfold atI ixN
      rw [if_pos (by omega), if_pos (by omega)]
      simp [e]
    simp only [h.nst, a, Option.map_some]
  · by_cases z : i = j
    · subst z
      rw [e] at ej; cases ej
      have hs : ks[i] < S.length := (List.getElem?_eq_some_iff.mp (h.row i _ e)).1
      rw [List.getElem?_set_self hs]
      simp [hi]
    · have hj : j < ks.length := (List.getElem?_eq_some_iff.mp ej).1
      have ne2 : ks[i] ≠ k := fun w => by
        rw [List.getElem?_eq_getElem hj] at ej
        exact z ((List.getElem_inj h.nd).mp (by rw [w]; exact (Option.some.inj ej).symm))
      rw [List.getElem?_set_ne ne2, h.row j k ej]
      simp [List.getElem?_set_ne z]
/-- a new row -/
theorem Nest.push (h : Nest R S n rs) (xs : List PV) (z : rs.length < 16777216) : ∃ S', appendM (.c n) [.c S.length] (S ++ [Cell.lst xs]) = some (.p .non, S') ∧ Nest R S' n (rs ++ [xs]) := by
  obtain ⟨ks, h⟩ := h
  have hn : n < S.length := (List.getElem?_eq_some_iff.mp h.nst).1
  have hl : R.length ≤ S.length := by
    have := congrArg List.length h.pre
    rw [List.length_take] at this
    omega
  have e : (S ++ [Cell.lst xs])[n]? = some (.nst ks) := by rw [List.getElem?_append_left hn]; exact h.nst
  have kl : ∀ k ∈ ks, k < S.length := fun k hk => by
    obtain ⟨j, hj⟩ := List.mem_iff_getElem?.mp hk
    exact (List.getElem?_eq_some_iff.mp (h.row j k hj)).1
  refine ⟨(S ++ [Cell.lst xs]).set n (Cell.nst (ks ++ [S.length])), ?_, ks ++ [S.length], take_set (take_more h.pre) h.lo, ?_, by rw [List.length_append, List.length_append, h.len]; rfl, h.lo, fun k hk => ?_, ?_, fun hk => ?_, fun j k ej => ?_⟩
  · unfold appendM
    simp only [e]
    rw [if_pos (by rw [h.len]; exact z)]
  · rw [List.getElem?_set_self (by rw [List.length_append]; omega)]
  · rcases List.mem_append.mp hk with hk | hk
    · exact h.klo k hk
    · rcases List.mem_singleton.mp hk with rfl
      exact hl
  · refine List.nodup_append.mpr ⟨h.nd, by simp, fun a ha b hb => ?_⟩
    rcases List.mem_singleton.mp hb with rfl
    exact Nat.ne_of_lt (kl a ha)
  · rcases List.mem_append.mp hk with hk | hk
    · exact h.nk hk
    · have : n = S.length := by simpa using hk
      omega
  · by_cases hj : j < ks.length
    · rw [List.getElem?_append_left hj] at ej
      have hm := List.mem_of_getElem? ej
      have ne : n ≠ k := fun w => h.nk (by rw [w]; exact hm)
      rw [List.getElem?_set_ne ne, List.getElem?_append_left (kl k hm), h.row j k ej]
      have : j < rs.length := by rw [← h.len]; exact hj
      simp [List.getElem?_append_left this]
    · have hj2 : j < (ks ++ [S.length]).length := (List.getElem?_eq_some_iff.mp ej).1
      rw [List.length_append, List.length_singleton] at hj2
      have : j = ks.length := by omega
      subst this
      rw [List.getElem?_append_right (Nat.le_refl _), Nat.sub_self] at ej
      have : S.length = k := by simpa using ej
      subst this
      rw [List.getElem?_set_ne (by omega), List.getElem?_append_right (Nat.le_refl _), Nat.sub_self]
      rw [h.len]
      simp
theorem Nest.meth {o : OpM} {fs : Sig → AH → Res (List DV)} {δ : Sig} (h : Nest R S n rs) : kMeth o fs δ (.c n) S = (fs δ S).bind (kMeth2 o (.c n)) := by
  obtain ⟨ks, h⟩ := h
  refine ev_kMethN (ks := ks) ?_
  unfold nitems
  simp only [h.nst]
theorem frzCs_of {m : Nat} {S : AH} : ∀ {ks : List Nat} {rs : List (List PV)}, ks.length = rs.length → (∀ i k, ks[i]? = some k → m ≤ k ∧ S[k]? = some (Cell.lst (rs.getD i []))) → frzCs m S ks = some (rs.map PV.lst)
  | [], [], _, _ => rfl
  | [], _ :: _, h, _ => by simp at h
  | _ :: _, [], h, _ => by simp at h
  | k :: ks, r :: rs, h, hr => by
    obtain ⟨h1, h2⟩ := hr 0 k rfl
    have e1 : frzC m S k = some (.lst r) := by
      unfold frzC
      rw [if_pos h1]
      simp only [h2]
      rfl
    have e2 := frzCs_of (m := m) (S := S) (ks := ks) (rs := rs) (by simpa using h) fun i k' e => by
      have := hr (i + 1) k' (by simpa using e)
      simpa using this
    simp [frzCs, e1, e2]
theorem Nest.frz (h : Nest R S n rs) : frzD R.length S (.c n) = some (.lst (rs.map PV.lst)) := by
  obtain ⟨ks, h⟩ := h
  unfold frzD
  dsimp only
  rw [if_pos h.lo]
  simp only [h.nst]
  rw [frzCs_of h.len fun i k e => ⟨h.klo k (List.mem_of_getElem? e), h.row i k e⟩]
  rfl
/-- lists from a comprehension, then the nest -/
theorem nest_new (R : AH) (rs : List (List PV)) : Nest R (R ++ rs.map Cell.lst ++ [Cell.nst (List.range' R.length rs.length)]) (R.length + rs.length) rs := by
  refine ⟨List.range' R.length rs.length, ?_, ?_, by simp, by omega, fun k hk => ?_, List.nodup_range', fun hk => ?_, fun i k e => ?_⟩
  · rw [List.append_assoc, List.take_append_of_le_length (Nat.le_refl _), List.take_length]
  · rw [List.getElem?_append_right (by simp)]
    simp
  · have := List.mem_range'_1.mp hk
    omega
  · have := List.mem_range'_1.mp hk
    omega
  · have hi : i < rs.length := by
      have := (List.getElem?_eq_some_iff.mp e).1
      simpa using this
    have ek : k = R.length + i := by
      have := (List.getElem?_eq_some_iff.mp e).2
      simp at this
      omega
    subst ek
    rw [List.getElem?_append_left (by simp; omega), List.getElem?_append_right (by omega), Nat.add_sub_cancel_left]
    simp [hi]
end
end
end DL
namespace DL
noncomputable section
open PySem L2
section
variable {S : AH} {fb : Sig → AH → Out} {i : Nat} {d : DV}
/-- a loop that gives a value back at the first item that fails -/
theorem for_guardL (I : Sig → Prop) (b : PV → Bool) : ∀ {xs : List PV} {δ : Sig}, I δ → (∀ x ∈ xs, ∀ δ, I δ → (b x = true → ∃ δ', I δ' ∧ fb (δ.set i (some (.p x))) S = .nx δ' S) ∧ (b x = false → fb (δ.set i (some (.p x))) S = .rt d S)) →
    (xs.all b = true → ∃ δ', I δ' ∧ forGo ckT (.nm i) fb (dit xs) δ S = .nx δ' S) ∧ (xs.all b = false → forGo ckT (.nm i) fb (dit xs) δ S = .rt d S)
  | [], δ, h, _ => ⟨fun _ => ⟨δ, h, by rw [dit_nil, for_nil]⟩, fun e => by simp at e⟩
  | x :: xs, δ, h, st => by
    obtain ⟨s1, s2⟩ := st x List.mem_cons_self δ h
    rw [dit_cons, for_nm, List.all_cons]
    cases e : b x with
    | false =>
      rw [s2 e, after_rt]
      exact ⟨fun z => by simp at z, fun _ => rfl⟩
    | true =>
      obtain ⟨δ1, h1, e1⟩ := s1 e
      rw [e1, after_nx, Bool.true_and]
      exact for_guardL I b h1 fun y hy => st y (List.mem_cons_of_mem _ hy)
theorem for_guard (I : Sig → Prop) : ∀ {n : Nat} {lo : Int} {b : Nat → Bool} {δ : Sig}, I δ → (∀ k < n, ∀ δ, I δ → (b k = true → ∃ δ', I δ' ∧ fb (δ.set i (some (.p (.int (lo + (k : Int)))))) S = .nx δ' S) ∧ (b k = false → fb (δ.set i (some (.p (.int (lo + (k : Int)))))) S = .rt d S)) →
    ((List.range n).all b = true → ∃ δ', I δ' ∧ forGo ckT (.nm i) fb (rangeI lo n) δ S = .nx δ' S) ∧ ((List.range n).all b = false → forGo ckT (.nm i) fb (rangeI lo n) δ S = .rt d S)
  | 0, lo, b, δ, h, _ => ⟨fun _ => ⟨δ, h, for_nil⟩, fun e => by simp at e⟩
  | n + 1, lo, b, δ, h, st => by
    obtain ⟨s1, s2⟩ := st 0 (by omega) δ h
    rw [show lo + ((0 : Nat) : Int) = lo by simp] at s1 s2
    have er : (List.range (n + 1)).all b = (b 0 && (List.range n).all fun k => b (k + 1)) := by
      rw [List.range_succ_eq_map, List.all_cons, List.all_map]; rfl
    rw [range_succ, for_nm, er]
    cases e : b 0 with
    | false =>
      rw [s2 e, after_rt]
      exact ⟨fun z => by simp at z, fun _ => rfl⟩
    | true =>
      obtain ⟨δ1, h1, e1⟩ := s1 e
      rw [e1, after_nx, Bool.true_and]
      exact for_guard I (lo := lo + 1) (b := fun k => b (k + 1)) h1 fun k hk δ hδ => by
        have := st (k + 1) (by omega) δ hδ
        rwa [show lo + ((k + 1 : Nat) : Int) = lo + 1 + (k : Int) by omega] at this
end
theorem rg_len (n : Nat) (h : n ≤ 1000000) (S : AH) : kRng1 [.p (.int (n : Int))] S = .ok (rangeI 0 n, ckT) S := by
  have e : small62 (n : Int) := small62_of (by omega)
  rw [kRng1_ok e, Int.toNat_natCast]
theorem rg_two (m n : Nat) (h : n ≤ 1000000) (h2 : m ≤ 1000000) (S : AH) : kRng2 [.p (.int (m : Int)), .p (.int (n : Int))] S = .ok (rangeI m (n - m), ckT) S := by
  rw [kRng2_ok (small62_of (by omega)) (small62_of (by omega))]
  congr 3
  omega
theorem asg2 {a b : Nat} {x y : PV} {δ : Sig} {S : AH} : jAsg (.tp [.nm a, .nm b]) δ (.p (.tup [x, y])) S = .nx ((δ.set a (some (.p x))).set b (some (.p y))) S := ev_jAsg rfl
theorem datas_ints : ∀ ns : List Int, PV.datas (ns.map PV.int) = some (ns.map PyData.int)
  | [] => by simp [PV.datas]
  | n :: ns => by simp [PV.datas, PV.data, datas_ints ns]
theorem eqvAll_ints : ∀ as bs : List Int, PyData.eqvAll (as.map PyData.int) (bs.map PyData.int) = decide (as = bs)
  | [], [] => by simp [PyData.eqvAll]
  | [], b :: bs => by simp [PyData.eqvAll]
  | a :: as, [] => by simp [PyData.eqvAll]
  | a :: as, b :: bs => by
    rw [List.map_cons, List.map_cons, PyData.eqvAll, eqvAll_ints as bs, eqv_int]
    by_cases h : a = b
    · by_cases h2 : as = bs <;> simp [h, h2]
    · simp [h]
theorem sh_ints (ns : List Int) : SeqAt.shaped (.list (ns.map PyData.int)) = true := by
  obtain ⟨d, h1, h2⟩ := fit_shaped (x := .lst (ns.map PV.int)) (n := 1) (fit_ints ns) (by decide)
  have : PV.data (.lst (ns.map PV.int)) = some (.list (ns.map PyData.int)) := by simp [PV.data, datas_ints]
  rw [this] at h1
  cases h1
  exact h2
theorem eqO_ints {as bs : List Int} {S : AH} : eqO (.p (.lst (as.map PV.int))) (.p (.lst (bs.map PV.int))) S = some (.p (.bl (decide (as = bs))), S) := by
  have e : PyData.eqv (.list (as.map PyData.int)) (.list (bs.map PyData.int)) = decide (as = bs) := by rw [PyData.eqv]; exact eqvAll_ints as bs
  unfold eqO dataOf
  simp only [PV.data, datas_ints, Option.map_some, eqDat, sh_ints, and_self, if_true, e]
theorem neO_ints {as bs : List Int} {S : AH} : neO (.p (.lst (as.map PV.int))) (.p (.lst (bs.map PV.int))) S = some (.p (.bl (!decide (as = bs))), S) := by
  have e : PyData.eqv (.list (as.map PyData.int)) (.list (bs.map PyData.int)) = decide (as = bs) := by rw [PyData.eqv]; exact eqvAll_ints as bs
  unfold neO dataOf
  simp only [PV.data, datas_ints, Option.map_some, eqDat, sh_ints, and_self, if_true, e]
theorem eqv_bl (a b : Bool) : PyData.eqv (.bool a) (.bool b) = decide (a = b) := by
  cases a <;> cases b <;> simp [PyData.eqv]
@[simp] theorem eqO_bl {a b : Bool} {S : AH} : eqO (.p (.bl a)) (.p (.bl b)) S = some (.p (.bl (decide (a = b))), S) := by
  have h1 : SeqAt.shaped (.bool a) = true := rfl
  have h2 : SeqAt.shaped (.bool b) = true := rfl
  unfold eqO dataOf
  simp only [PV.data, eqDat, h1, h2, and_self, if_true, Option.map_some, eqv_bl]
theorem sorted_c {n : Nat} {ns : List Int} {S : AH} (h : S[n]? = some (.lst (ns.map PV.int))) : sortedF [.c n] S = some ((sortI ns).map PV.int) := by
  unfold sortedF
  simp only [litems_c h, intsOf_map]
theorem sorted_lst {ns : List Int} {S : AH} : sortedF [.p (.lst (ns.map PV.int))] S = some ((sortI ns).map PV.int) := by
  unfold sortedF
  simp only [litems_lst, intsOf_map]
end
end DL
namespace DL
noncomputable section
open PySem PySem.Spec PyProof.Rows L2

/-! ### a call of a value that is a def -/
abbrev FTab := List (Str × (List DV → AH → Res DV))
def dCallV (tab : FTab) (fa : Sig → AH → Res DV) (fs : Sig → AH → Res (List DV)) : Sig → AH → Res DV := fun δ S => (fa δ S).bind fun d S => match d with
  | .p (.glob n) => match tab.lookup n with
    | some F => (fs δ S).bind fun ds S => F ds S
    | none => .bad
  | _ => .bad
inductive TabOk (X : Cx) : FTab → Prop
  | nil : TabOk X []
  | cons {n : Str} {F : List DV → AH → Res DV} {tab : FTab} {k : Nat} {f : Addr} {fd : FuncData} {ps : List Str} : FnOk X.prog X.w X.K X.mg X.base (L2.CX X.prog X.w) k f fd ps (spD ⟨X.K, X.mg⟩ F) → Room k X.A → X.mg n = some (.ref f) → PySem.W.keepIn X.K (.ref f) = true → Binds X.K fd ps [] → TabOk X tab → TabOk X ((n, F) :: tab)
theorem TabOk.at {X : Cx} {n : Str} {F : List DV → AH → Res DV} : ∀ {tab : FTab}, TabOk X tab → tab.lookup n = some F → ∃ k f fd ps, FnOk X.prog X.w X.K X.mg X.base (L2.CX X.prog X.w) k f fd ps (spD ⟨X.K, X.mg⟩ F) ∧ Room k X.A ∧ X.mg n = some (.ref f) ∧ PySem.W.keepIn X.K (.ref f) = true ∧ Binds X.K fd ps []
  | _, .nil, e => by cases e
  | _, .cons (n := m) (F := G) a b c d h t, e => by
    rw [List.lookup_cons] at e
    by_cases z : n = m
    · subst z
      simp at e
      subst e
      exact ⟨_, _, _, _, a, b, c, d, h⟩
    · have z' : (n == m) = false := by simpa using z
      rw [z'] at e
      exact TabOk.at t e
section
variable {X : Cx} {E : L2.St → XK} {fn a : Expr} {es : List Expr} {pos : Pos} {fa : Sig → AH → Res DV} {fs : Sig → AH → Res (List DV)}
/-- the callee is any expression -/
theorem pe_callX {CX : CXT} {tf : TE} {t : TA} (hf : PE X fn tf) (ha : PA X (a :: es) t) (hx : ∀ σ, PassesAt CX X σ (E σ))
    (hc : eval (.Call fn (a :: es) [] pos) X.env = (eval fn X.env >>= fun v => callWith pos v [] (backTo pos (starEach (a :: es) X.env)) (backToKw pos (keywordEach [] X.env)))) (he : starEach (a :: es) X.env = (false, eval a X.env) :: starEach es X.env) (hpl : (backTo pos (starEach es X.env)).any (·.1) = false) :
    PE X (.Call fn (a :: es) [] pos) (fun σ H Q => tf σ H fun v H1 => ∃ k f fd ps sp, FnOk X.prog X.w X.K X.mg X.base CX k f fd ps sp ∧ Room k X.A ∧ PySem.W.keepIn X.K (.ref f) = true ∧ Binds X.K fd ps [] ∧ v = .ref f ∧ t σ H1 fun vs H2 => sp vs H2 Q (E σ)) := by
  refine ⟨fun pins s σ H Q I h => ?_⟩
  rw [hc]
  refine wpAny_bind (thn (hf.run pins s σ H _ I h) fun u s1 ⟨v, H1, I1, r1, k, f, fd, ps, sp, F, hr, hk, hb, ev, ht⟩ => ?_)
  subst ev
  obtain rfl : u = Value.ref f := r1
  refine PySem.W.callWith_K (h₀ := X.base) I1.ok.mod.kin hk (thn (ha.run pos pins s1 σ _ _ I1 ht) fun us s2 ⟨vs, H2, I2, r, q⟩ => ⟨I2.kIn, ?_⟩) he hpl
  exact run_fnS F hr hb (hx σ) I2 r q
theorem de_callV {tab : FTab} (g : Gd X E) (T : TabOk X tab) (hf : DE X E fn fa) (ha : DA X E (a :: es) fs)
    (hc : eval (.Call fn (a :: es) [] pos) X.env = (eval fn X.env >>= fun v => callWith pos v [] (backTo pos (starEach (a :: es) X.env)) (backToKw pos (keywordEach [] X.env))) := by rfl) (he : starEach (a :: es) X.env = (false, eval a X.env) :: starEach es X.env := by rfl) (hpl : (backTo pos (starEach es X.env)).any (·.1) = false := by rfl) :
    DE X E (.Call fn (a :: es) [] pos) (dCallV tab fa fs) := (pe_callX hf ha (fun σ => g.pass σ) hc he hpl).imp fun σ H Q ⟨as, δ, S, sr, er, w⟩ =>
  ⟨as, δ, S, sr, er, w.bind.mono fun _ _ _ _ v _ _ _ _ ⟨as1, S1, d1, _, x1, s1, r1, w1⟩ => by
    cases d1 with
    | c n => exact w1.elim
    | p x =>
      cases x with
      | glob n =>
        dsimp only at w1
        cases e : tab.lookup n with
        | none => rw [e] at w1; exact w1.elim
        | some F =>
          rw [e] at w1
          obtain ⟨k, f, fd, ps, h1, h2, h3, h4, h5⟩ := T.at e
          have ev : v = .ref f := by
            cases r1 with
            | glob m r =>
              cases h3.symm.trans (show X.mg n = _ from m)
              cases v <;> simp [L2.RelV] at r
              rw [r]
          exact ⟨k, f, fd, ps, _, h1, h2, h4, h5, ev, as1, δ, S1, s1, er.mono x1.w, w1.bind.mono fun _ _ _ _ _ _ _ _ _ ⟨as2, S2, ds, _, x2, s2, r2, w2⟩ => ⟨as2, ds, S2, s2, r2, w2⟩⟩
      | _ => exact w1.elim⟩
end
@[simp] theorem ev_callV {tab : FTab} {fa : Sig → AH → Res DV} {fs : Sig → AH → Res (List DV)} {δ : Sig} {S S1 : AH} {n : Str} {F : List DV → AH → Res DV} (h : fa δ S = .ok (.p (.glob n)) S1) (e : tab.lookup n = some F) : dCallV tab fa fs δ S = (fs δ S1).bind fun ds S => F ds S := by
  unfold dCallV
  rw [h]
  simp [Res.bind, e]
end
end DL
namespace DL
noncomputable section
open PySem PySem.Spec PyProof.Rows L2

/-! ### a tuple taken once -/
theorem tup_once (l : Addr) (its : Array Value) (n : Nat) (dd : Option Addr) (sl : Array (Option Value)) (u : Tok) :
    Meets (Builtin.«tuple.__mul__» ⟨[.ref l, .int 1 u], []⟩) (fun _ R s => s.heap.get? l = some { cls := .type "tuple", dict := dd, data := .seq its n, slots := sl } ∧ R (.ok (.ret (Value.ref l))) s) :=
  .of_wp fun prog w A R s ⟨h1, h2⟩ => by
    obtain ⟨hp, g, d, tk, os⟩ := s
    have f1 := AutoSeq1.idx_int
    have c1 : (its.isEmpty || (1 : Int) == 1) = true := by simp
    wp_walk using wpAny_loadPart' h1
    repeat (first
      | (refine wpAny_ite_false (by decide) ?_; wp_walk using wpAny_loadPart' h1)
      | (refine wpAny_ite_true (by rw [c1]) ?_; wp_walk using wpAny_loadPart' h1))
    exact ⟨_, rfl, h2⟩
theorem tup_never (l : Addr) (its : Array Value) (n : Nat) (dd : Option Addr) (sl : Array (Option Value)) (u : Tok) (h0 : its.isEmpty = false) :
    Meets (Builtin.«tuple.__mul__» ⟨[.ref l, .int 0 u], []⟩) (fun _ R s => s.heap.get? l = some { cls := .type "tuple", dict := dd, data := .seq its n, slots := sl } ∧
      R (.ok (.ret (Value.ref s.heap.objs.size))) { s with heap := s.heap.push { cls := Value.type "tuple", data := Data.seq #[] }, toks := s.toks }) :=
  .of_wp fun prog w A R s ⟨h1, h2⟩ => by
    obtain ⟨hp, g, d, tk, os⟩ := s
    have f1 := AutoSeq1.idx_int
    have c1 : (its.isEmpty || (0 : Int) == 1) = false := by rw [h0]; rfl
    wp_walk using wpAny_loadPart' h1
    repeat (first
      | (refine wpAny_ite_false (by decide) ?_; wp_walk using wpAny_loadPart' h1)
      | (refine wpAny_ite_false (by rw [c1]; decide) ?_; wp_walk using wpAny_loadPart' h1)
      | (refine wpAny_ite_true (by decide) ?_; wp_walk using wpAny_loadPart' h1)
      | (refine wpAny_ite_true (by simp) ?_; wp_walk using wpAny_loadPart' h1))
    exact ⟨_, rfl, h2⟩
section
variable {X : Cx}
theorem op_once : OpR X (binaryOp .Mult) (fun x y H Q => ∃ l xs, x = V.ref l ∧ y = V.int 1 ∧ SqT X.K H l xs ∧ Q (V.ref l) H) := by
  intro pins s σ H x y v u Q I rx ry ⟨l, xs, ex, ey, hT, q⟩
  subst ex ey
  cases rx
  obtain ⟨t, rfl⟩ := ry
  obtain ⟨its, r, ⟨⟨cls, dd, data, sl⟩, ho, hc, n, hd⟩, hs⟩ := I.tuple hT
  simp only at hc hd
  subst hc hd
  exact wpAny_binaryOp_repeat_ref (T := "tuple") (U := "int") (by decide) ⟨_, ho, rfl⟩ (fun s' => typeIs_int s' 1 t) noFill_tuple_mul F.fills_int_mul F.slot_int_rmul repeat_tuple F.slot_int_index.lookup
    (call_meets F.slot_int_rmul (typeIs_int s 1 t) F.entry_int_rmul (F.args_int_rmul_2 _ _) (int_rmul_tuple 1 t l its.toArray n dd sl)
      ⟨ho, rfl, ⟨_, ho, rfl⟩, call_meets F.slot_tuple_mul ⟨_, ho, rfl⟩ F.entry_tuple_mul (F.args_tuple_mul_2 _ _) (tup_once l its.toArray n dd sl t) ⟨ho, .ref l, H, I, rfl, q⟩⟩)
theorem op_never : OpR X (binaryOp .Mult) (fun x y H Q => ∃ l xs, x = V.ref l ∧ y = V.int 0 ∧ SqT X.K H l xs ∧ xs ≠ [] ∧ NewT H Q []) := by
  intro pins s σ H x y v u Q I rx ry ⟨l, xs, ex, ey, hT, hne, q⟩
  subst ex ey
  cases rx
  obtain ⟨t, rfl⟩ := ry
  obtain ⟨its, r, ⟨⟨cls, dd, data, sl⟩, ho, hc, n, hd⟩, hs⟩ := I.tuple hT
  simp only at hc hd
  subst hc hd
  have hi : its.toArray.isEmpty = false := by
    cases r with
    | nil => exact absurd rfl hne
    | cons _ _ => rfl
  exact wpAny_binaryOp_repeat_ref (T := "tuple") (U := "int") (by decide) ⟨_, ho, rfl⟩ (fun s' => typeIs_int s' 0 t) noFill_tuple_mul F.fills_int_mul F.slot_int_rmul repeat_tuple F.slot_int_index.lookup
    (call_meets F.slot_int_rmul (typeIs_int s 0 t) F.entry_int_rmul (F.args_int_rmul_2 _ _) (int_rmul_tuple 0 t l its.toArray n dd sl)
      ⟨ho, rfl, ⟨_, ho, rfl⟩, call_meets F.slot_tuple_mul ⟨_, ho, rfl⟩ F.entry_tuple_mul (F.args_tuple_mul_2 _ _) (tup_never l its.toArray n dd sl t hi)
        ⟨ho, lay_tup (its := []) I (by simp) .nil q⟩⟩)
/-- a product, a tuple taken once or never too -/
def mulO1 : Op2 := fun a b S => match a, b with
  | .p (.tup xs), .p (.int k) => if k = 1 then some (.p (.tup xs), S) else if k = 0 ∧ xs ≠ [] then some (.p (.tup []), S) else mulO a b S
  | .p (.lst xs), .p (.int k) => if 0 ≤ k ∧ k ≤ 1000 ∧ xs.length ≤ 1000 then some (.p (.lst (List.replicate k.toNat xs).flatten), S) else none
  | _, _ => mulO a b S
theorem ow_mul1 : OpR X (binaryOp .Mult) (rO (wd X) mulO1) := by
  intro pins s σ H x y v u Q I rx ry h
  obtain ⟨as, S, d1, d2, sr, r1, r2, w⟩ := h
  unfold mulO1 at w
  split at w
  · split at w
    · rename_i z
      subst z
      cases r2
      cases r1 with
      | tup h1 t1 => exact op_once pins s σ H _ _ v u Q I rx ry ⟨_, _, rfl, rfl, h1.sq, w.here sr (.tup h1 t1)⟩
    split at w
    · rename_i z
      obtain ⟨rfl, z⟩ := z
      cases r2
      cases r1 with
      | tup h1 t1 =>
        refine op_never pins s σ H _ _ v u Q I rx ry ⟨_, _, rfl, rfl, h1.sq, fun e => ?_, w.tup sr (by simp) .nil⟩
        subst e
        cases t1
        exact z rfl
    · exact ow_mul pins s σ H x y v u Q I rx ry ⟨as, S, _, _, sr, r1, r2, w⟩
  · split at w
    · rename_i z
      obtain ⟨z1, z2, z3⟩ := z
      cases r2
      cases r1 with
      | lst h1 t1 =>
        have hl := t1.length
        refine op_rep pins s σ H _ _ v u Q I rx ry ⟨_, _, _, rfl, rfl, h1.2.1, by omega, by omega, ?_, fun p n => w.lst sr ?_ (t1.rep _) n⟩
        · rw [sizeLine_eq]
          refine Nat.le_trans (m := 1000 * 1000) (Nat.mul_le_mul ?_ ?_) (by decide)
          · omega
          · omega
        rw [PyProof.Rows.lm_len_rep_flat, sizeLine_eq]
        refine Nat.le_trans (m := 1000 * 1000) (Nat.mul_le_mul ?_ ?_) (by decide)
        · omega
        · omega
    · exact w.elim
  · exact ow_mul pins s σ H x y v u Q I rx ry ⟨as, S, _, _, sr, r1, r2, w⟩
end
theorem mulO1_int {i j : Int} {S : AH} (h : mulOk i j) : mulO1 (.p (.int i)) (.p (.int j)) S = some (.p (.int (i * j)), S) := mulO_int h
theorem mulO1_tup {xs : List PV} {k : Int} {S : AH} (h : xs ≠ [] ∧ 0 ≤ k ∧ k ≤ 1000 ∧ xs.length ≤ 1000) : mulO1 (.p (.tup xs)) (.p (.int k)) S = some (.p (.tup (List.replicate k.toNat xs).flatten), S) := by
  show (if k = 1 then _ else if _ then _ else _) = _
  split
  · rename_i z
    subst z
    simp
  · split
    · rename_i z
      obtain ⟨rfl, _⟩ := z
      simp
    · rename_i z1 z2
      exact mulO_tup ⟨h.1, by have : k ≠ 0 := fun e => z2 ⟨e, h.1⟩; omega, h.2.2⟩
end
end DL
namespace DL
noncomputable section
open PySem PySem.Spec PyProof.Rows L2

/-! ### an own exception whose __init__ says super().__init__(x); self.x = x -/
/-- the body of that __init__ -/
def InitBody (x : Str) (b : List Stmt) : Prop := ∃ (p0 p1 p2 p3 p4 p5 p6 p7 p8 p9 : Pos), (p2.endLine == p4.line) = true ∧ b = [.Expr (.Call (.Attribute (.Call (.Name "super" p0) [] [] p1) "__init__" p2) [.Name x p3] [] p4) p5, .Assign [.Attribute (.Name "self" p6) x p7] (.Name x p8) p9]
structure SupK (P : Program) (K : PySem.W.Frag) (x : Str) (C fI cda cc : Addr) (fd : FuncData) : Prop where
  fn : ∃ name qual params body scope dV kV doc pm an ct oc od osl, fd = PySem.W.ksFn name qual params body scope dV kV doc pm an (.ref cda) ct cc ∧ K.lookup fI = some ⟨oc, od, .func fd, osl⟩ ∧ InitBody x body ∧ PySem.W.codeIn K (.ref cda) qual = true ∧
    scope.names.lookup ("super" : Str) = some .globalImplicit ∧ scope.names.lookup ("__class__" : Str) = some .free ∧ scope.names.lookup ("self" : Str) = some .local ∧ scope.names.lookup x = some .local ∧ scope.kind = .function ∧ (∀ y ∈ scope.names, y.2 ≠ .cell) ∧ scope.isCoroutine = false ∧ scope.isGenerator = false ∧
    ∃ ar, (params.posonlyargs ++ params.args).head? = some ar ∧ ar.arg = "self"
  code : ∃ cl d vs sl, K.lookup cda = some ⟨cl, d, .fields vs, sl⟩ ∧ ∃ file t, vs[2]? = some (.str file t) ∧ ((P.main.file : Str) == file) = true
  cell : ∃ cl d sl, K.lookup cc = some ⟨cl, d, .cell (some (.ref C)), sl⟩
  cls : OexC K C
  mro : PySem.W.mroIn K C (.ref C) = some true
  sup : PySem.W.ks_superIn K C C "__init__" = some (some (.builtin "ValueError.__init__"))
  ve : PySem.W.subIn K (.ref C) (.type "ValueError") = some true
  any : PySem.W.nsIn K cStatics "thirdparty.any" = some none
  fld : PySem.W.findIn K (.ref C) x = some none
  nosup : PySem.W.nsIn K mainGlobals "super" = some none
  top : (P.main.scope.names.lookup ("super" : Str)).isSome = false
  xs : x ≠ ("self" : Str)
  ini : PySem.W.excInitIn K C [.type "ValueError", .type "Exception", .type "BaseException", .type "object"] "ValueError.__new__" = true
  xd : (x == ("__debug__" : Str)) = false
theorem call_eq {o : Expr} {m : Str} {a : Expr} {p2 p4 : Pos} {env : Env} (hp : (p2.endLine == p4.line) = true) (hs : starEach [a] env = [(false, eval a env)]) : eval (.Call (.Attribute o m p2) [a] [] p4) env = (do
    let ov ← attributeBase o m env (eval o env)
    standAt p2.atName
    let (f, first) ← holding [ov] (getMethod ov m (do return (← importBound o env).getD true))
    callWith p4 f first (backTo p4 (starEach [a] env)) []) := by
  have e1 : eval (.Call (.Attribute o m p2) [a] [] p4) env = (attributeBase o m env (eval o env) >>= fun ov => standAt p2.atName >>= fun _ => methodCall o m p2 p4 env ov 1 (backTo p4 (starEach [a] env)) []) := rfl
  have e2 : methodCallForm 1 (backTo p4 (starEach [a] env)) [] = true := by rw [hs]; rfl
  have e3 : methodCallPos true o env p2 p4 = pure p4 := by
    unfold methodCallPos
    rw [hp]
    rfl
  rw [e1]
  unfold methodCall
  rw [e2, e3]
  rfl
section
variable {P : Program} {w : World} {K : PySem.W.Frag} {A : Around} {hp : Heap} {g : Array GenState} {d : Drawn} {t : Nat} {os : OsState} {mg mb : Str → Option Value} {x : Str} {C fI cda cc a t0 : Addr} {fd : FuncData} {u : Value} {R : Result → Shared → Prop}
theorem sup_run (T : SupK P K x C fI cda cc fd) (hr : A.depth < recursionLimit) (X : K.In hp) (na : K.lookup a = none) (G : hp.Ns mainGlobals mg) (B : hp.Ns builtinsNs mb) (hb : mb "super" = bootBuiltins "super") (lim : hp.NoLimit)
    {args : Args} (hbind : BindsTo ⟨hp, g, d, t, os⟩ fd args [("self", .ref a), (x, u)]) (ha : hp.get? a = some ({ cls := .ref C, dict := none, data := .fields #[.ref t0, .none, .none, .none, .bool false, .none] } : Obj))
    (hq : ∀ h' tk' dx t1, (∀ b o, b ≠ a → hp.get? b = some o → h'.get? b = some o) → hp.objs.size ≤ dx → h'.get? a = some ({ cls := .ref C, dict := some dx, data := .fields #[.ref t1, .none, .none, .none, .bool false, .none] } : Obj) →
      h'.Ns1 dx (fun y => if y = x then some u else none) → R (.ok (.ret .none)) ⟨h', g, d, tk', os⟩) :
    codeAny (model P w) A (.call (.ref fI) args) R ⟨hp, g, d, t, os⟩ := by
  obtain ⟨name, qual, params, body, scope, dV, kV, doc, pm, an, ct, oc, od, osl, efd, hlk, hbody, hcd, sc1, sc2, sc3, sc4, sck, scc, sco, scg, ar, har, eself⟩ := T.fn
  obtain ⟨ccl, cdd, vs, ccs, hcode, file, tf, hvs, hfile⟩ := T.code
  obtain ⟨cl, cld, csl, hcell⟩ := T.cell
  obtain ⟨p0, p1, p2, p3, p4, p5, p6, p7, p8, p9, hps, eb⟩ := hbody
  have ho := X _ _ hlk
  subst efd
  refine PySem.ks_codeAny_call_defAt (body := body) (binds := [("self", .ref a), (x, u)]) hr ho rfl lim (PySem.W.codeRec_of X hcd) rfl hbind scc (fun y hy => ?_) (fun h₁ hns hk => ?_) sco scg sck
  · simp only [List.mem_cons, List.not_mem_nil, or_false] at hy
    rcases hy with rfl | rfl
    · exact sc3
    · exact sc4
  have X1 : K.In h₁ := X.keeps hk
  have hL : hp.objs.size ≤ hp.objs.size := Nat.le_refl _
  obtain ⟨oL, _, _, hoL, _⟩ := id hns
  subst eb
  have ha1 := hk _ _ ha
  obtain ⟨nm, q, N, bs, bm, sn, sub, ab, col, dd, k0, k1, k2, k3, k5, hC, hbm⟩ := T.cls.cls
  have hcl : PySem.W.clsIn K C = some { name := nm, bases := bs, mro := .ref C :: bm, ns := N, qualname := q, hasDict := true, slotNames := sn, subclasses := sub, abstract := ab, collection := col, hasDel := false } := by
    unfold PySem.W.clsIn
    rw [hC] <;> rfl
  refine PySem.ks_wpAt_execs_cons (PySem.ks_wpAt_Expr_any (PySem.ks_wpAt_MethodCall ?_ (call_eq hps rfl)) (by unfold interactive; show (scope.kind == .module && _) = false; rw [sck]; rfl))
  refine PySem.ks_wpAt_super_base (f := fI) (cc := cda) sc1 sc2 rfl rfl (X1 _ _ hlk) rfl har rfl (X1 _ _ hcode) rfl hvs hfile T.top ?_
  refine PySem.W.ks_loadName_global sck sc1 (PySem.Calls.loadGlobal_builtin (G.keeps hk) (PySem.W.mg_none_of X G T.nosup) (B.keeps hk) (hb.trans (by kernel_rfl)) ⟨rfl, ?_⟩)
  refine wpAny_loadName_free sck sc2 rfl ⟨_, X1 _ _ hcell, rfl⟩ ?_
  have l1 : ([(("self" : Str), Value.ref a), (x, u)].reverse.lookup ar.arg) = some (.ref a) := by
    rw [eself]
    have : (("self" : Str) == x) = false := by simpa using fun e => T.xs e.symm
    simp [List.lookup, this]
  have l2 : ([(("self" : Str), Value.ref a), (x, u)].reverse.lookup x) = some u := by simp [List.lookup]
  refine wpAny_loadName_local sck (by rw [eself]; exact sc3) hns l1 ?_
  refine PySem.ks_wpAny_isType_cls (X1 _ _ hC) rfl ⟨rfl, ?_⟩
  refine PySem.ks_wpAny_call_super (X1 _ _ hC) rfl ha1 rfl (fun c e => by cases e) (PySem.W.looks_mroIn X1 T.mro) (fun h2 e2 k2' => ?_)
  have X2 : K.In h2 := X1.keeps k2'
  have sup := T.sup
  unfold PySem.W.ks_superIn at sup
  rw [hcl] at sup
  have sup : PySem.W.alongIn K "__init__" (((Value.ref C :: bm).dropWhile (· != .ref C)).drop 1) = some (some (.builtin "ValueError.__init__")) := sup
  have hma : h2.get? a = some ({ cls := .ref C, dict := none, data := .fields #[.ref t0, .none, .none, .none, .bool false, .none] } : Obj) := k2' _ _ ha1
  have I2 : PySem.W.InstAt h2 a { cls := .ref C, dict := none, data := .fields #[.ref t0, .none, .none, .none, .bool false, .none] } C none := ⟨hma, rfl, rfl, trivial⟩
  have aC : a ≠ C := fun e => by
    rw [e, hC] at na
    cases na
  refine PySem.W.kxs_getMethod PySem.W.kxs_ValueError e2 (PySem.W.looks_opaque X2 T.any) (l₀ := .ref C :: bm) ((PySem.W.looks_clsIn X2 hcl).andThen .now) rfl X2 sup (I2.type.andThen (PySem.W.looks_subIn X2 T.ve)) aC rfl ?_
  obtain ⟨h3, e3⟩ : ∃ h3, h3 = h2.push (PySem.W.kxs_mw "ValueError.__init__" a) := ⟨_, rfl⟩
  have k3 : ∀ b o, h2.get? b = some o → h3.get? b = some o := fun b o e => by rw [e3]; exact Heap.get?_push_of_some _ e
  have up : ∀ b o, hp.get? b = some o → h3.get? b = some o := fun b o e => k3 _ _ (k2' _ _ (hk _ _ e))
  have m3 : h3.get? h2.objs.size = some (PySem.W.kxs_mw "ValueError.__init__" a) := by rw [e3]; exact Heap.get?_push_at rfl rfl
  have lt2 : hp.objs.size < h2.objs.size := Heap.lt_size (k2' _ _ hoL)
  have alt : a < hp.objs.size := Heap.lt_size ha
  rw [← e3]
  have F3 : Fr (PySem.W.hideAll hp [a]) hp.objs.size h3 (fun y => [(("self" : Str), Value.ref a), (x, u)].reverse.lookup y) := ⟨(hns.keeps k2').keeps k3, fun b o e => up _ _ (PySem.W.of_hideAll _ e), Nat.le_of_eq (PySem.W.hideAll_size _ _)⟩
  have N3 : News (PySem.W.hideAll hp [a]) hp.objs.size h3 [(h2.objs.size, PySem.W.kxs_mw "ValueError.__init__" a), (a, PySem.W.excObj C t0 none .none)] := fun q hq => by
    simp only [List.mem_cons, List.not_mem_nil, or_false] at hq
    rcases hq with rfl | rfl
    · refine ⟨m3, Nat.ne_of_gt lt2, ?_⟩
      cases z : (PySem.W.hideAll hp [a]).get? h2.objs.size with
      | none => rfl
      | some o => exact absurd (Heap.lt_size (PySem.W.of_hideAll _ z)) (Nat.not_lt.mpr (Nat.le_of_lt lt2))
    · exact ⟨k3 _ _ hma, Nat.ne_of_lt alt, PySem.W.hideAll_none _ List.mem_cons_self⟩
  have X0 : K.In (PySem.W.hideAll hp [a]) := fun b o e => PySem.W.hideAll_get _ (X _ _ e) (fun z => by
    rcases List.mem_singleton.mp z with rfl
    rw [na] at e
    cases e)
  have xns : h3.Ns hp.objs.size (fun y => [(("self" : Str), Value.ref a), (x, u)].reverse.lookup y) := F3.ns
  refine PySem.W.kxs_callWith1 N3 List.mem_cons_self ?_ rfl rfl
  show wpAny _ _ (spliced ((false, eval (.Name x p3) _) :: [])) _ _ _
  refine Calls.spliced_cons (wpAny_Name (wpAny_loadName_local sck sc4 xns l2 (Calls.spliced_nil ?_)) T.xd)
  refine ⟨PySem.W.kxs_at N3 List.mem_cons_self, ?_⟩
  refine PySem.W.kxs_call F3 X0 N3 F.excBase_ValueError T.ini List.mem_cons_self (.tail (Nat.ne_of_gt (Nat.lt_trans alt lt2)) (.head (by simp))) (by show 1 ≤ sizeLine; rw [sizeLine_eq]; omega) (fun t4 h4 F4 N4 lt4 => ?_)
  have X4 : K.In h4 := X0.keeps F4.keep
  have hx4 : h4.get? a = some (PySem.W.excObj C t4 none .none) := (N4 (a, _) (by simp)).1
  have hns4 : h4.Ns hp.objs.size (fun y => [(("self" : Str), Value.ref a), (x, u)].reverse.lookup y) := F4.ns
  refine PySem.ks_wpAt_execs_cons (wpAt_of_wpAny (plainObj_wpAny_Assign_Attribute (wpAny_Name (wpAny_loadName_local sck sc4 hns4 l2 ?_) T.xd) rfl))
  have l1' : ([(("self" : Str), Value.ref a), (x, u)].reverse.lookup ("self" : Str)) = some (.ref a) := by rw [eself] at l1; exact l1
  refine wpAny_Name (wpAny_loadName_local sck sc3 hns4 l1' ?_) (by decide)
  refine PySem.W.set_plain X4 (ox := PySem.W.excObj C t4 none .none) (od := none) ⟨hx4, rfl, rfl, trivial⟩ T.cls.sa ?_
  refine PySem.HandSPX.exc_osa X4 hx4 hcl (show PySem.HandSPX.refsVE (.ref C :: bm) = true from hbm) rfl T.fld (fun h5 tk5 dx k5 dn dne hx5 hn5 => ?_)
  refine wpAt_of_wpAny (wpAny_pure ?_)
  obtain ⟨oL4, _, _, hoL4, _⟩ := id hns4
  exact hq h5 _ dx t4 (fun b o hb e => k5 b o hb (F4.keep _ _ (PySem.W.hideAll_get _ e (fun z => hb (List.mem_singleton.mp z))))) (Nat.le_trans (Nat.le_of_lt (Heap.lt_size hoL4)) dn) hx5 hn5
end
/-- what that __init__ promises -/
def spI (x : Str) (C : Addr) : Sp := fun vs H Q _ => ∃ (a : Addr) (y : V), vs = [.ref a, y] ∧ H a = some (exo a C none) ∧ ∀ dx, H dx = none → dx ≠ a → Q .non (upd (upd H dx (exd dx [(x, y)])) a (exo a C (some dx)))
theorem sup_un {fs : List Addr} {H : Hp} {h h' : Heap} {a C dx : Addr} {x : Str} {y : V} {o : Obj} (e : H a = some (exo a C none)) (k : ∀ b o, b ≠ a → h.get? b = some o → h'.get? b = some o) (dn : h.objs.size ≤ dx) (n : H dx = none) (ho : h'.get? a = some o) :
    Un fs [] H (upd (upd H dx (exd dx [(x, y)])) a (exo a C (some dx))) h h' := by
  have na : ∀ {b}, H b = none → b ≠ a := fun m z => by rw [z, e] at m; cases m
  have old : ∀ {b : Addr} {z : HO}, H b = some z → z ≠ exo a C none → upd (upd H dx (exd dx [(x, y)])) a (exo a C (some dx)) b = some z := fun {b z} q d => by
    have h1 : b ≠ a := fun w => by rw [w, e] at q; cases q; exact d rfl
    have h2 : b ≠ dx := fun w => by rw [w, n] at q; cases q
    rw [upd_ne h1, upd_ne h2, q]
  exact ⟨fun b o q m _ _ => k b o (na m) q, fun b o q m _ _ => ⟨o.slots, k b o (na m) q⟩,
    fun b o q m _ => by
      have h2 : b ≠ dx := fun w => absurd (Heap.lt_size q) (by rw [w]; exact Nat.not_lt.mpr dn)
      rw [upd_ne (na m), upd_ne h2, m],
    fun b o q _ => by
      by_cases z : b = a
      · subst z
        exact ⟨_, ho⟩
      · exact ⟨o, k b o z q⟩,
    fun b xs q => old q fun z => exo_tup z.symm, fun b o u q => old q fun z => exo_frz z.symm, fun b ps q => ⟨#[], by rw [old q fun z => exo_tbl z.symm]; simp⟩⟩
theorem sup_hok {P : Program} {w : World} {H : Hp} {h h' : Heap} {a C dx t1 : Addr} {x : Str} {y : V} {u : Value} (ok : HOk P w H h) (e : H a = some (exo a C none)) (k : ∀ b o, b ≠ a → h.get? b = some o → h'.get? b = some o) (n : H dx = none)
    (ho : h'.get? a = some ({ cls := .ref C, dict := some dx, data := .fields #[.ref t1, .none, .none, .none, .bool false, .none] } : Obj)) (hn : h'.Ns1 dx (fun z => if z = x then some u else none)) (ry : L2.RelV y u) :
    HOk P w (upd (upd H dx (exd dx [(x, y)])) a (exo a C (some dx))) h' := by
  intro b o q
  by_cases h1 : b = a
  · subst h1
    rw [upd_same] at q
    cases q
    exact exo_ok ho
  rw [upd_ne h1] at q
  by_cases h2 : b = dx
  · subst h2
    rw [upd_same] at q
    cases q
    exact exd_ok hn (relO_put (fs := []) ry fun _ => trivial)
  rw [upd_ne h2] at q
  have old : ∀ {c : Addr} {z : HO}, H c = some z → z ≠ exo a C none → c ≠ a ∧ upd (upd H dx (exd dx [(x, y)])) a (exo a C (some dx)) c = some z := fun {c z} q d => by
    have g1 : c ≠ a := fun w => by rw [w, e] at q; cases q; exact d rfl
    have g2 : c ≠ dx := fun w => by rw [w, n] at q; cases q
    exact ⟨g1, by rw [upd_ne g1, upd_ne g2, q]⟩
  refine (ok b o q).stay (fun c v hc z => k c v ?_ z) (fun c hc => (old hc fun z => exo_own z.symm).2) (fun c xs hc => (old hc fun z => exo_tup z.symm).2)
  rcases hc with hc | hc
  · rw [hc]; exact h1
  · exact (old hc fun z => exo_own z.symm).1
section
variable {P : Program} {w : World} {K : PySem.W.Frag} {mg : Str → Option Value} {base : Heap} {x : Str} {C fI cda cc : Addr} {fd : FuncData} {CX : CXT}
theorem sup_ok (T : SupK P K x C fI cda cc fd) : FnOk P w K mg base CX 1 fI fd ["self", x] (spI x C) := by
  refine ⟨fun vs H Q E ⟨a, y, e, _⟩ => by rw [e]; rfl, fun A outer s H args us vs Q E hr e0 hb hv hsp => ?_⟩
  obtain ⟨a, y, rfl, ea, q⟩ := hsp
  cases hv with
  | cons r1 hv =>
  cases hv with
  | cons r2 hv =>
  cases hv
  rename_i u1 u
  obtain rfl : u1 = Value.ref a := r1
  have up := fun b o e => (e0.bs b o e).1
  have X : K.In s.heap := e0.mod.kin.keeps up
  have na : K.lookup a = none := by
    cases z : K.lookup a with
    | none => rfl
    | some o =>
      have := (e0.bs _ _ (e0.mod.kin _ _ z)).2
      rw [ea] at this
      cases this
  obtain ⟨mb, B, hmb⟩ := e0.mod.blt
  obtain ⟨t0, ha⟩ := exo_at e0.hok ea
  obtain ⟨hp, g, d, t, os⟩ := s
  refine sup_run T hr.depth X na (e0.mod.glob.keeps up) (B.keeps up) (hmb _ (by decide)) (e0.mod.nolimit.keeps up) hb ha fun h' tk' dx t1 k dn hx hn => ?_
  have nd := e0.hok.fresh dn
  have ne : dx ≠ a := fun z => absurd (Heap.lt_size ha) (by rw [← z]; exact Nat.not_lt.mpr dn)
  exact ⟨.non, _, rfl, e0.bare, sup_un ea k dn nd hx, sup_hok e0.hok ea k nd hx hn r2, rfl, q dx nd ne⟩
end
end
end DL
namespace DL
noncomputable section
open PySem PySem.Spec PyProof.Rows L2

/-! ### raise C(e), C's __init__ as in D19 -/
def dRaiseF (c x : Str) (fa : Sig → AH → Res DV) : Sig → AH → Out := fun δ S => (fa δ S).out δ fun d S1 => match d with
  | .p y => .exc c [(x, y)] δ S1
  | .c _ => .bad
section
variable {X : Cx} {E : L2.St → XK} {e : Expr} {pos p2 pos' : Pos} {c x : Str} {C fI cda cc : Addr} {fd : FuncData} {fa : Sig → AH → Res DV}
theorem ds_raiseF (g : Gd X E) (T : SupK X.prog X.K x C fI cda cc fd) (iC : PySem.W.findIn X.K (.ref C) "__init__" = some (some (.ref fI))) (tI : PySem.W.typeIn X.K (.ref fI) = some (.type "function")) (hr : Room 2 X.A) (hb : Binds X.K fd ["self", x] []) (hg : Gl X c) (hm : X.mg c = some (.ref C))
    (he : DE X E e fa) (hdb : (c == ("__debug__" : Str)) = false := by decide) (hs : starEach [e] X.env = [(false, eval e X.env)] := by rfl) : DS X E (.Raise (some (.Call (.Name c p2) [e] [] pos')) none pos) (dRaiseF c x fa) := by
  have mk := pmk_oex (CX := fun _ _ _ _ _ _ => False) (p := p2) (pos := pos') T.cls iC tI (sup_ok (P := X.prog) (w := X.w) (mg := X.mg) (base := X.base) T) hr hb .nil (fun _ _ _ _ _ _ _ z => z.elim) hg hm (da_cons he da_nil hs) hdb hs rfl
  refine (ps_raise g.calm g.tk mk).imp fun D σ H ⟨as, δ, S, sr, er, w⟩ => ?_
  refine ⟨as, δ, S, sr, er, ?_⟩
  unfold dRaiseF at w
  have ed : dCons fa dNil δ S = (fa δ S).bind fun d S1 => .ok [d] S1 := rfl
  rw [ed]
  cases ef : fa δ S with
  | bad => rw [ef] at w; exact w.elim
  | exc n p S1 => rw [ef] at w; exact fun as' H' cls dd x1 s1 r1 => w as' H' σ cls dd x1 s1 (er.mono x1.w) r1
  | ok d S1 =>
    rw [ef] at w
    intro as' H' vs x1 s1 r1
    cases r1 with
    | cons r r0 =>
    cases r0
    cases d with
    | c n => exact w.elim
    | p y =>
    rename_i v
    refine ⟨by simp, fun a na => ⟨a, v, rfl, upd_same, fun dx ndx ne => ⟨rfl, dx, [(x, v)], upd_same, by rw [upd_ne ne, upd_same], by rw [upd_ne ne] at ndx; exact ndx, ?_⟩⟩⟩
    have n1 : H' dx = none := by rw [upd_ne ne] at ndx; exact ndx
    have eh : upd (L2.del (upd (upd (upd H' a (exo a C none)) dx (exd dx [(x, v)])) a (exo a C (some dx))) a) dx (.xd [(x, v)]) = upd H' dx (.xd [(x, v)]) := by
      funext b
      by_cases h1 : b = dx
      · rw [h1, upd_same, upd_same]
      · rw [upd_ne h1, upd_ne h1]
        by_cases h2 : b = a
        · rw [h2, L2.del_same, na]
        · rw [L2.del_ne h2, upd_ne h2, upd_ne h1, upd_ne h2]
    rw [eh]
    have x2 := ext_new (o := .xd [(x, v)]) s1 n1
    exact w as' _ σ (.ref C) (some dx) (x1.trans x2) (s1.new n1) (er.mono (x1.trans x2).w) ⟨hm, (fun z => by cases z), fun _ => ⟨dx, [(x, v)], rfl, s1.fresh n1, upd_same, .cons ⟨rfl, r.mono x2.w⟩ .nil⟩⟩
end
/-! ### try with several clauses, some of them with a name -/
abbrev Hnd := Value × Option Nat × (Addr → Value → Option Addr → TS)
def endsAt (D : Ends) (i : Nat) : Ends := { nx := fun τ J => D.nx (τ.set i none) J, rt := D.rt, bk := fun τ J => D.bk (τ.set i none) J, ct := fun τ J => D.ct (τ.set i none) J }
def wMix (K : PySem.W.Frag) (Wout : WX) (D : Ends) : List Hnd → WX
  | [] => Wout
  | (c, o, ts) :: r => fun cls d σ H => ∃ b, PySem.W.exmOne K cls c = some b ∧ (b = true → ∀ a, H a = none → match o with
      | none => ts a cls d D σ H
      | some i => ts a cls d (endsAt D i) (σ.set i (some (.ref a))) H) ∧ (b = false → wMix K Wout D r cls d σ H)
inductive HdsM (X : Cx) : List ExceptHandler → List Hnd → Prop
  | nil : HdsM X [] []
  | plain {x : Str} {c : Value} {ts : Addr → Value → Option Addr → TS} {b0 : Stmt} {bs : List Stmt} {np q : Pos} {hds : List ExceptHandler} {l : List Hnd} : Names X x c →
      (∀ (a : Addr) (oe : Obj) (cls : Value) (d : Option Addr) (pn : List (Addr × Obj)), Zc cls d oe → (∃ vs, oe.data = .fields vs) → PSs (X.suite a ((a, oe) :: pn)) (b0 :: bs) (ts a cls d)) → HdsM X hds l →
      HdsM X (.ExceptHandler (some (.Name x np)) none (b0 :: bs) q :: hds) ((c, none, ts) :: l)
  | named {x n : Str} {i : Nat} {c : Value} {ts : Addr → Value → Option Addr → TS} {b0 : Stmt} {bs : List Stmt} {np q : Pos} {hds : List ExceptHandler} {l : List Hnd} : Names X x c → X.N[i]? = some n → X.env.kindOf n = some .local →
      (∀ (a : Addr) (oe : Obj) (cls : Value) (d : Option Addr) (pn : List (Addr × Obj)), Zc cls d oe → (∃ vs, oe.data = .fields vs) → PSs (X.suite a ((a, oe) :: pn)) (b0 :: bs) (ts a cls d)) → HdsM X hds l →
      HdsM X (.ExceptHandler (some (.Name x np)) (some n) (b0 :: bs) q :: hds) ((c, some i, ts) :: l)
theorem off_frames {B h : Heap} {st : List Env} {a : Addr} {o : Obj} {vs : Array Value} (ff : h.FunFrames B st) (e : h.get? a = some o) (dd : o.data = .fields vs) : a ∉ frs st := fun m => by
  obtain ⟨_, u, eu, no⟩ := ff.mem m
  cases e.symm.trans eu
  exact no _ dd
section
variable {X : Cx} {body : List Stmt} {h0 : ExceptHandler} {hds : List ExceptHandler} {l : List Hnd} {pos : Pos} {tb : WX → TS} {Wout : WX}
theorem ps_try_mix (hs : X.stack = X.env :: X.outer) (hf : X.env.frame = some X.env.locals) (hN : X.N.Nodup) (tk : Takes X Wout)
    (hb : ∀ (W : WX) (pn : List (Addr × Obj)) (xe : Value → Shared → Prop), Takes (X.tr pn xe) W → PassesOwn (model X.prog X.w) X.A X.env xe → PSs (X.tr pn xe) body (tb W)) (hh : HdsM X (h0 :: hds) l) :
    PS X (.Try body (h0 :: hds) [] [] pos) (fun D σ H => tb (wMix X.K Wout D l) D σ H) := by
  constructor
  intro pins s σ H D I hin
  have ok := I.ok
  have fr0 : X.A.frames = some (X.env :: X.outer) := ok.frames.trans (congrArg some hs)
  have run := (hb (wMix X.K Wout D l) (X.pn ++ pins) (fun e s1 => wpAny (model X.prog X.w) X.A (noteFrame e X.env) (fun _ s2 => wpAny (model X.prog X.w) X.A (setFlight e none) (fun _ s3 => wpAny (model X.prog X.w) X.A (handleBy e X.env (h0 :: hds)) (SP X pins D) X.xe s3) X.xe s2) X.xe s1) ?caught PassesOwn.looking).run [] s σ H D (I.toTry _) hin
  case caught =>
    rintro u t1 ⟨a, B, sI, pins', τ, J, cls, d, rfl, i1, nb, up, sky, na, os, ag, wish⟩
    have i0 : Inv X pins τ J sI := i1.ofTry ok
    rw [show (X.tr (X.pn ++ pins) _).stack = X.env :: X.outer from hs] at sky
    refine Sky.land Zc.steady fr0 hf sky (fun g3 fly sub3 => ?_)
    have i3 : Inv X pins τ J { t1 with heap := g3 } := i0.landed nb fly.1 (up.trans sub3) os ag
    obtain ⟨o3, v3, e3, z3, d3⟩ := fly.there
    have off := off_frames fly.2.2.1 e3 d3
    have ne1 : a ≠ X.env.locals := fun z => off (List.mem_filterMap.mpr ⟨X.env, by simp, z ▸ hf⟩)
    have ne2 : a ∉ X.fs := fun z => by
      obtain ⟨v, m, q⟩ := List.mem_filterMap.mp z
      exact off (List.mem_filterMap.mpr ⟨v, by simp [m], q⟩)
    have sui := i3.suite e3 d3 na ne1 ne2
    have each : ∀ {ks : List ExceptHandler} {m : List Hnd}, HdsM X ks m → wMix X.K Wout D m cls d τ J → wpAny (model X.prog X.w) X.A (handleBy (.ref a) X.env ks) (SP X pins D) X.xe { t1 with heap := g3 } := by
      intro ks m hk
      have tested : ∀ {x : Str} {c : Value} {np : Pos} {Q : Value → Shared → Prop} {E : Value → Shared → Prop}, Names X x c → Q c { t1 with heap := g3 } → wpAny (model X.prog X.w) (X.A.mark (some (.ref a))) (eval (.Name x np) X.env) Q E { t1 with heap := g3 } := by
        rintro x c np Q E ⟨g1, g2, q | ⟨q1, q2, q3⟩⟩ fin
        · exact ld_glob (X := X.suite a ((a, o3) :: (X.pn ++ pins))) sui g1 q fin g2
        · exact ld_blt (X := X.suite a ((a, o3) :: (X.pn ++ pins))) sui g1 q1 q2 fin q3 g2
      have looks : PySem.W.Looks (model X.prog X.w) g3 (typeOf (.ref a)) cls := fun A Q E s k q => wpAny_typeOf_ref (k _ _ e3) (by rw [z3.1]; exact q)
      induction hk with
      | nil =>
        intro wish
        refine wpAny_handleBy_nil ?_
        obtain ⟨-, -, -, oe, vs, T, oT, ts, y1, -, y2, y3, -⟩ := id fly
        have out : wpAny (model X.prog X.w) X.A (setFlight (.ref a) X.env.frame) (fun _ s4 => wpAny (model X.prog X.w) X.A (throw (.ref a) : Sem Flow) (SP X pins D) X.xe s4) X.xe { t1 with heap := g3 } := by
          rw [hf]
          exact HandSPX.setFlight_upZ fly fun g4 at4 sub4 => wpAny_throw (tk _ _ ⟨a, B, sI, pins, τ, J, cls, d, rfl, i0, nb, (up.trans sub3).trans sub4, .inr (.inr (hs ▸ at4)), na, os, ag, wish⟩)
        unfold PySem.passOn
        refine wpAny_bind (wpAny_field y1 y2 y3 ?_)
        have nn : ¬ ((Value.ref T == Value.none) = true) := by simp
        rw [if_neg nn]
        first
          | exact wpAny_bind out
          | exact wpAny_bind (wpAny_pure (wpAny_bind out))
      | @plain x c ts b0 bs np q hds2 l2 names suite rest ih =>
        rintro ⟨b, hb1, yes, no⟩
        refine wpAny_handleBy_cons (codeAny_handlers_test (tested names ((PySem.W.exm_one (M := model X.prog X.w) i3.kIn looks hb1).here ?_))) (fun z => by cases z)
        cases b with
        | false => exact ih (no rfl)
        | true =>
          refine codeAny_handlers_suite (HandSPX.lands_againZ fly fun g4 fly4 sub4 => ?_)
          obtain ⟨o4, v4, e4, z4, d4⟩ := fly4.there
          have i4 : Inv X pins τ J { t1 with heap := g4 } := i0.landed nb fly4.1 ((up.trans sub3).trans sub4) os ag
          refine wpAny_mono ((suite a o4 cls d (X.pn ++ pins) z4 ⟨_, d4⟩).run [] _ τ J _ (i4.suite e4 d4 na ne1 ne2) (yes rfl a na)) (fun f s6 sp => ?_) (fun _ _ z => z.elim)
          cases f with
          | ret u => exact let ⟨v, τ6, J6, k6, r6, q6⟩ := sp; ⟨v, τ6, J6, k6.unsuite ok, r6, q6⟩
          | next => exact let ⟨τ6, J6, k6, q6⟩ := sp; ⟨τ6, J6, k6.unsuite ok, q6⟩
          | brk => exact let ⟨τ6, J6, k6, q6⟩ := sp; ⟨τ6, J6, k6.unsuite ok, q6⟩
          | cont => exact let ⟨τ6, J6, k6, q6⟩ := sp; ⟨τ6, J6, k6.unsuite ok, q6⟩
      | @named x n i c ts b0 bs np q hds2 l2 names hi hl suite rest ih =>
        rintro ⟨b, hb1, yes, no⟩
        refine wpAny_handleBy_cons (codeAny_handlers_test (tested names ((PySem.W.exm_one (M := model X.prog X.w) i3.kIn looks hb1).here ?_))) (fun z => by cases z)
        cases b with
        | false => exact ih (no rfl)
        | true =>
          refine codeAny_handlers_suite_as (HandSPX.lands_againZ fly fun g4 fly4 sub4 => ?_)
          obtain ⟨o4, v4, e4, z4, d4⟩ := fly4.there
          have i4 : Inv X pins τ J { t1 with heap := g4 } := i0.landed nb fly4.1 ((up.trans sub3).trans sub4) os ag
          refine store_ok (X := X.suite a ((a, o4) :: (X.pn ++ pins))) (v := .ref a) (i4.suite e4 d4 na ne1 ne2) hN hi (Or.inl hl) rfl (fun s5 k5 => ?_) (Or.inr hl)
          refine wpAny_mono ((suite a o4 cls d (X.pn ++ pins) z4 ⟨_, d4⟩).run [] s5 _ J _ k5 (yes rfl a na)) (fun f s6 sp => ?_) (fun _ _ z => z.elim)
          cases f with
          | ret u => exact let ⟨v, τ6, J6, k6, r6, q6⟩ := sp; gone_ok (k6.unsuite ok) hN hi hl fun s7 k7 => ⟨v, _, J6, k7, r6, q6⟩
          | next => exact let ⟨τ6, J6, k6, q6⟩ := sp; gone_ok (k6.unsuite ok) hN hi hl fun s7 k7 => ⟨_, J6, k7, q6⟩
          | brk => exact let ⟨τ6, J6, k6, q6⟩ := sp; gone_ok (k6.unsuite ok) hN hi hl fun s7 k7 => ⟨_, J6, k7, q6⟩
          | cont => exact let ⟨τ6, J6, k6, q6⟩ := sp; gone_ok (k6.unsuite ok) hN hi hl fun s7 k7 => ⟨_, J6, k7, q6⟩
    exact each hh wish
  refine wpAny_Try_except (wpAny_mono run (fun f s6 sp => ?_) fun _ _ z => z)
  cases f with
  | ret u => exact let ⟨v, τ6, J6, k6, r6, q6⟩ := sp; ⟨v, τ6, J6, k6.ofTry ok, r6, q6⟩
  | next => exact let ⟨τ6, J6, k6, q6⟩ := sp; wpAny_execs_nil ⟨τ6, J6, k6.ofTry ok, q6⟩
  | brk => exact let ⟨τ6, J6, k6, q6⟩ := sp; ⟨τ6, J6, k6.ofTry ok, q6⟩
  | cont => exact let ⟨τ6, J6, k6, q6⟩ := sp; ⟨τ6, J6, k6.ofTry ok, q6⟩
end
/-! the same, read as a denotation -/
abbrev HD := (Str → Option Bool) × (List (Str × PV) → Sig → AH → Out)
def pickN : List HD → Str → List (Str × PV) → Sig → AH → Out
  | [], c, p, δ, S => .exc c p δ S
  | (sub, run) :: r, c, p, δ, S => match sub c with
    | some true => (run p δ S).nox
    | some false => pickN r c p δ S
    | none => .bad
def pickO (hs : List HD) : Out → Out
  | .exc c p δ S => pickN hs c p δ S
  | o => o
def dTryN (hs : List HD) (fb : Sig → AH → Out) : Sig → AH → Out := fun δ S => pickO hs (fb δ S)
def hPlain (fs : Sig → AH → Out) : List (Str × PV) → Sig → AH → Out := fun _ δ S => fs δ S
def hField (i : Nat) (f : Str) : List (Str × PV) → Sig → AH → Out := fun p δ S => match p.lookup f with
  | some y => if i < δ.length then .rt (.p y) S else .bad
  | none => .bad
inductive HdsD (X : Cx) : List ExceptHandler → List Hnd → List HD → Prop
  | nil : HdsD X [] [] []
  | plain {x : Str} {c : Value} {sub : Str → Option Bool} {fs : Sig → AH → Out} {b0 : Stmt} {bs : List Stmt} {np q : Pos} {hds : List ExceptHandler} {l : List Hnd} {hs : List HD} : Names X x c → (∀ n b cls, sub n = some b → X.mg n = some cls → PySem.W.exmOne X.K cls c = some b) →
      (∀ (a : Addr) (pn : List (Addr × Obj)), DSs (X.suite a pn) EN (b0 :: bs) fs) → HdsD X hds l hs →
      HdsD X (.ExceptHandler (some (.Name x np)) none (b0 :: bs) q :: hds) ((c, none, fun _ _ _ => tS (wd X) EN fs) :: l) ((sub, hPlain fs) :: hs)
  | field {x n f : Str} {i : Nat} {C : Addr} {sub : Str → Option Bool} {np p1 p2 p3 q : Pos} {hds : List ExceptHandler} {l : List Hnd} {hs : List HD} : Names X x (.ref C) → X.mg x = some (.ref C) → (∀ n b cls, sub n = some b → X.mg n = some cls → PySem.W.exmOne X.K cls (.ref C) = some b) → (∀ n, sub n = some true → n = x) →
      X.N[i]? = some n → X.env.kindOf n = some .local → Vis X.env.scope n → XfC X.K C → PySem.W.findIn X.K (.ref C) f = some none → (n == ("__debug__" : Str)) = false → (n == ("__classdict__" : Str)) = false → attributeBase (.Name n p1) f X.env (eval (.Name n p1) X.env) = eval (.Name n p1) X.env → HdsD X hds l hs →
      HdsD X (.ExceptHandler (some (.Name x np)) (some n) [.Return (some (.Attribute (.Name n p1) f p2)) p3] q :: hds) ((.ref C, some i, fun a cls d D σ H => tXf a cls d C f (tVar i) σ H D.rt) :: l) ((sub, hField i f) :: hs)
theorem HdsD.toM {X : Cx} {ks : List ExceptHandler} {l : List Hnd} {hs : List HD} (h : HdsD X ks l hs) : HdsM X ks l := by
  induction h with
  | nil => exact .nil
  | plain a _ c _ ih => exact .plain a (fun w oe cls d pn _ _ => c w _) ih
  | field a _ _ _ e g v T hno nd nc hab _ ih => exact .named a e g (fun w oe cls d pn hz hf => pss_one (ps_ret (pe_xf T hno hz hf (pe_var e v nd nc) hab))) ih
theorem lookup_rel {M : Wd} {as : As} {H : Hp} {f : Str} {y : PV} : ∀ {fs : List (Str × V)} {p : List (Str × PV)}, Paired (fun (g : Str × V) (h : Str × PV) => g.1 = h.1 ∧ PR M as H g.2 h.2) fs p → p.lookup f = some y → ∃ v, fs.lookup f = some v ∧ PR M as H v y
  | _, _, .nil, e => by cases e
  | (g1, v) :: _, (h1, z) :: _, .cons ⟨e1, r⟩ t, e => by
    have e1 : g1 = h1 := e1
    subst e1
    rw [List.lookup_cons] at e ⊢
    cases q : f == g1 with
    | true => rw [q] at e; cases e; exact ⟨v, by simp, r⟩
    | false => rw [q] at e; exact lookup_rel t e
theorem pick_ok {X : Cx} {E : L2.St → XK} {D : Ends} {ks : List ExceptHandler} {l : List Hnd} {hs : List HD} {c : Str} {p : List (Str × PV)} {δ : Sig} {S : AH} {as : As} {H : Hp} {σ : L2.St} {cls : Value} {dd : Option Addr} (h : HdsD X ks l hs) (s : SR (wd X) as H S) (r : ER (wd X) as H σ δ) (ex : ExR (wd X) as H c p cls dd) :
    WS (wd X) E D as H (pickN hs c p δ S) → wMix X.K (fun cls d σ H => E σ cls d H) D l cls dd σ H := by
  induction h with
  | nil => exact fun w => w as H σ cls dd (Ext.refl _ _) s r ex
  | @plain x cv sub fs b0 bs np q hds l hs a hsub c' _ ih =>
    intro w
    unfold pickN at w
    split at w
    · rename_i e1
      refine ⟨true, hsub c true cls e1 ex.1, fun _ a na => ⟨as, δ, S, s, r, ?_⟩, fun z => Bool.noConfusion z⟩
      cases ef : fs δ S with
      | nx δ4 S4 => simp only [hPlain, ef, DL.Out.nox] at w; exact w
      | ct δ4 S4 => simp only [hPlain, ef, DL.Out.nox] at w; exact w
      | bk δ4 S4 => simp only [hPlain, ef, DL.Out.nox] at w; exact w
      | rt d S4 => simp only [hPlain, ef, DL.Out.nox] at w; exact w
      | rtT d S4 => simp only [hPlain, ef, DL.Out.nox] at w; exact w
      | exc c p δ4 S4 => simp only [hPlain, ef, DL.Out.nox] at w; exact w.elim
      | bad => simp only [hPlain, ef, DL.Out.nox] at w; exact w
    · rename_i e1
      exact ⟨false, hsub c false cls e1 ex.1, fun z => Bool.noConfusion z, fun _ => ih w⟩
    · exact w.elim
  | @field x n f i C sub np p1 p2 p3 q hds l hs a m hsub own e g v T hno nd nc hab _ ih =>
    intro w
    unfold pickN at w
    split at w
    · rename_i e1
      refine ⟨true, hsub c true cls e1 ex.1, fun _ a na => ?_, fun z => Bool.noConfusion z⟩
      have ec : cls = .ref C := by
        have := own c e1
        subst this
        have := ex.1
        exact Option.some.inj (this.symm.trans m)
      simp only [hField] at w
      cases el : p.lookup f with
      | none => rw [el] at w; exact w.elim
      | some y =>
        simp only [el] at w
        by_cases hlt : i < δ.length
        case neg => rw [if_neg hlt] at w; exact w.elim
        rw [if_pos hlt] at w
        refine ⟨.ref a, by rw [List.getElem?_set_self (by rw [r.len]; exact hlt)], rfl, ec, ?_⟩
        have hp : p ≠ [] := fun z => by rw [z] at el; cases el
        obtain ⟨dx, fs, e2, e3, e4, e5⟩ := ex.2.2 hp
        obtain ⟨vv, k1, k2⟩ := lookup_rel e5 el
        exact ⟨dx, fs, vv, e2, e4, k1, w as H vv (Ext.refl _ _) s k2⟩
    · rename_i e1
      exact ⟨false, hsub c false cls e1 ex.1, fun z => Bool.noConfusion z, fun _ => ih w⟩
    · exact w.elim
section
variable {X : Cx} {E : L2.St → XK} {body : List Stmt} {h0 : ExceptHandler} {hds : List ExceptHandler} {l : List Hnd} {hs : List HD} {pos : Pos} {fb : Sig → AH → Out}
theorem ds_tryN (g : Gd X E) (hst : X.stack = X.env :: X.outer) (hf : X.env.frame = some X.env.locals) (hN : X.N.Nodup) (hd : HdsD X (h0 :: hds) l hs)
    (hb : ∀ (W : WX) (pn : List (Addr × Obj)) (xe : Value → Shared → Prop), Gd (X.tr pn xe) (WE W) → DSs (X.tr pn xe) (WE W) body fb) : DS X E (.Try body (h0 :: hds) [] [] pos) (dTryN hs fb) :=
  (ps_try_mix (tb := fun W => tS (wd X) (WE W) fb) (Wout := fun cls d σ H => E σ cls d H) hst hf hN g.tk (fun W pn xe tk po => hb W pn xe ⟨g.calm, tk, po⟩) hd.toM).imp fun D σ H ⟨as, δ, S, sr, er, w⟩ => by
  refine ⟨as, δ, S, sr, er, ?_⟩
  unfold dTryN at w
  cases eq : fb δ S with
  | exc c p δ1 S1 =>
    rw [eq] at w
    exact fun as' H' σ' cls dd x' s' r' ex => pick_ok hd s' r' ex (WS.later x' w)
  | nx δ1 S1 => rw [eq] at w; exact w
  | rt d S1 => rw [eq] at w; exact w
  | rtT d S1 => rw [eq] at w; exact w
  | bk δ1 S1 => rw [eq] at w; exact w
  | ct δ1 S1 => rw [eq] at w; exact w
  | bad => rw [eq] at w; exact w
end
/-! how it runs -/
@[simp] theorem ev_tryN {hs : List HD} {fb : Sig → AH → Out} {δ : Sig} {S : AH} : dTryN hs fb δ S = pickO hs (fb δ S) := rfl
@[simp] theorem pickO_nx {hs : List HD} {δ : Sig} {S : AH} : pickO hs (.nx δ S) = .nx δ S := rfl
@[simp] theorem pickO_rt {hs : List HD} {d : DV} {S : AH} : pickO hs (.rt d S) = .rt d S := rfl
@[simp] theorem pickO_exc {hs : List HD} {c : Str} {p : List (Str × PV)} {δ : Sig} {S : AH} : pickO hs (.exc c p δ S) = pickN hs c p δ S := rfl
theorem pick_yes {sub : Str → Option Bool} {run : List (Str × PV) → Sig → AH → Out} {r : List HD} {c : Str} {p : List (Str × PV)} {δ : Sig} {S : AH} (h : sub c = some true) : pickN ((sub, run) :: r) c p δ S = (run p δ S).nox := by
  unfold pickN
  rw [h]
theorem pick_no {sub : Str → Option Bool} {run : List (Str × PV) → Sig → AH → Out} {r : List HD} {c : Str} {p : List (Str × PV)} {δ : Sig} {S : AH} (h : sub c = some false) : pickN ((sub, run) :: r) c p δ S = pickN r c p δ S := by
  rw [pickN.eq_def]
  simp only [h]
@[simp] theorem ev_hPlain {fs : Sig → AH → Out} {p : List (Str × PV)} {δ : Sig} {S : AH} : hPlain fs p δ S = fs δ S := rfl
theorem ev_hField {i : Nat} {f : Str} {y : PV} {δ : Sig} {S : AH} (h : i < δ.length) : hField i f [(f, y)] δ S = .rt (.p y) S := by
  simp [hField, List.lookup, h]
@[simp] theorem ev_raiseF {c x : Str} {fa : Sig → AH → Res DV} {δ : Sig} {S : AH} : dRaiseF c x fa δ S = (fa δ S).out δ fun d S1 => match d with
  | .p y => .exc c [(x, y)] δ S1
  | .c _ => .bad := rfl
/-- one class is caught by its own name alone -/
theorem sub_ok2 {K : PySem.W.Frag} {C C2 : Addr} {x x2 n : Str} {b : Bool} {cls : Value} {mg : Str → Option Value} (i : PySem.W.isClsIn K C = true) (t : PySem.W.typeIn K (.ref C) = some (.type "type")) (bb : PySem.W.subIn K (.ref C) (.type "BaseException") = some true) (s : PySem.W.subIn K (.ref C) (.ref C) = some true)
    (m : mg x = some (.ref C)) (s2 : PySem.W.subIn K (.ref C2) (.ref C) = some false) (m2 : mg x2 = some (.ref C2)) (hs : (if n = x then some true else if n = x2 then some false else none) = some b) (hm : mg n = some cls) : PySem.W.exmOne K cls (.ref C) = some b := by
  by_cases e : n = x
  · exact sub_ok i t bb s m (by rw [if_pos e] at hs ⊢; exact hs) hm
  rw [if_neg e] at hs
  split at hs
  · rename_i e2
    subst e2
    cases hs
    rw [m2] at hm
    cases hm
    have k1 : (PySem.W.subIn K (.ref C) (.type "BaseException") == some true) = true := by rw [bb] <;> rfl
    have k3 : (PySem.W.clsIn K C).isSome = true := i
    have k2 : ((PySem.W.clsIn K C).isSome && PySem.W.typeIn K (.ref C) == some (.type "type")) = true := by rw [k3, t] <;> rfl
    unfold PySem.W.exmOne PySem.W.kitCls
    simp only [k1, k2, if_true, s2]
  · cases hs
end
end DL
namespace DL
noncomputable section
open PySem PySem.Spec PyProof.Rows L2

/-! ### sorted(set(t)), t a tuple of numbers -/
def insU (a : Int) : List Int → List Int
  | [] => [a]
  | b :: r => if a < b then a :: b :: r else if a = b then b :: r else b :: insU a r
def srtU : List Int → List Int
  | [] => []
  | a :: r => insU a (srtU r)
theorem insU_mem (a k : Int) : ∀ l, k ∈ insU a l ↔ k = a ∨ k ∈ l
  | [] => by simp [insU]
  | b :: r => by
    unfold insU
    by_cases h1 : a < b
    · rw [if_pos h1, List.mem_cons]
    · by_cases h2 : a = b
      · rw [if_neg h1, if_pos h2, h2, List.mem_cons]
        constructor
        · exact fun h => .inr h
        · rintro (h | h)
          · exact .inl h
          · exact h
      · rw [if_neg h1, if_neg h2, List.mem_cons, insU_mem a k r, List.mem_cons]
        constructor
        · rintro (h | h | h)
          · exact .inr (.inl h)
          · exact .inl h
          · exact .inr (.inr h)
        · rintro (h | h | h)
          · exact .inr (.inl h)
          · exact .inl h
          · exact .inr (.inr h)
theorem insU_asc (a : Int) : ∀ {l : List Int}, l.Pairwise (· < ·) → (insU a l).Pairwise (· < ·)
  | [], _ => by simp [insU]
  | b :: r, h => by
    obtain ⟨h1, h2⟩ := List.pairwise_cons.mp h
    unfold insU
    by_cases q1 : a < b
    · rw [if_pos q1]
      refine List.pairwise_cons.mpr ⟨fun y hy => ?_, h⟩
      rcases List.mem_cons.mp hy with rfl | hy
      · exact q1
      · have := h1 y hy; omega
    · by_cases q2 : a = b
      · rw [if_neg q1, if_pos q2]
        exact h
      · rw [if_neg q1, if_neg q2]
        refine List.pairwise_cons.mpr ⟨fun y hy => ?_, insU_asc a h2⟩
        rcases (insU_mem a y r).mp hy with rfl | hy
        · omega
        · exact h1 y hy
theorem srtU_mem (k : Int) : ∀ l, k ∈ srtU l ↔ k ∈ l
  | [] => by simp [srtU]
  | a :: r => by rw [srtU, insU_mem, srtU_mem k r, List.mem_cons]
theorem srtU_asc : ∀ l, (srtU l).Pairwise (· < ·)
  | [] => .nil
  | a :: r => insU_asc a (srtU_asc r)
theorem asc_same : ∀ {l m : List Int}, l.Pairwise (· < ·) → m.Pairwise (· < ·) → (∀ k, k ∈ l ↔ k ∈ m) → l = m
  | [], [], _, _, _ => rfl
  | [], b :: m, _, _, h => by have := (h b).mpr List.mem_cons_self; cases this
  | a :: l, [], _, _, h => by have := (h a).mp List.mem_cons_self; cases this
  | a :: l, b :: m, h1, h2, h => by
    obtain ⟨p1, p2⟩ := List.pairwise_cons.mp h1
    obtain ⟨q1, q2⟩ := List.pairwise_cons.mp h2
    have ab : a = b := by
      rcases List.mem_cons.mp ((h a).mp List.mem_cons_self) with e | e
      · exact e
      · rcases List.mem_cons.mp ((h b).mpr List.mem_cons_self) with e2 | e2
        · exact e2.symm
        · have := p1 b e2
          have := q1 a e
          omega
    subst ab
    rw [asc_same p2 q2 fun k => ?_]
    constructor
    · intro hk
      rcases List.mem_cons.mp ((h k).mp (List.mem_cons_of_mem _ hk)) with e | e
      · have := p1 k hk; omega
      · exact e
    · intro hk
      rcases List.mem_cons.mp ((h k).mpr (List.mem_cons_of_mem _ hk)) with e | e
      · have := q1 k hk; omega
      · exact e
section
variable {X : Cx}
def rSetI (K : PySem.W.Frag) (w : World) : List V → Hp → VK → Prop := fun vs H Q => ∃ (l : Addr) (ns : List Int), vs = [V.ref l] ∧ SqT K H l (ns.map V.int) ∧ ns.length ≤ 1000 ∧ ∀ a c, H a = none → c ≤ ns.length → Q (.ref a) (upd H a (SetO w a (fun j => decide (j ∈ ns)) c))
theorem cr_setI (hc : X.calm = true) : CallR X (.type "set") (rSetI X.K X.w) := by
  intro pins s σ H vs us Q I r ⟨l, ns, ev, hq, hz, q⟩
  subst ev
  rw [Vals.ref1 r]
  obtain ⟨its, rv, pt, _⟩ := I.tuple hq
  exact call_set_tupI ns (I.ok.hd hc) (show s.heap.IsTuple l its.toArray from pt) (ints_of_vals rv) (by unfold scanBound; omega) fun h' tk c R1 hcn k =>
    ⟨.ref s.heap.objs.size, _, I.laid (t' := tk) k (Nat.le_refl _) (setO_new R1), rfl, q _ c (I.hok.fresh (Nat.le_refl _)) hcn⟩
def ssetF : OpF := fun ds _ => match ds with
  | [.p (.tup xs)] => match intsOf xs with
    | some ns => if ns.length < 64 then some ((srtU ns).map PV.int) else none
    | none => none
  | _ => none
end
section
variable {X : Cx} {E : L2.St → XK} {e : Expr} {p p2 q pos : Pos} {fe : Sig → AH → Res DV}
theorem fe_sset (g : Gd X E) (hg : Gl X "sorted") (hm : X.mg "sorted" = none) (hg2 : Gl X "set") (hm2 : X.mg "set" = none) (he : DE X E e fe) (hs : starEach [e] X.env = [(false, eval e X.env)] := by rfl) (hs2 : starEach [Expr.Call (.Name "set" p2) [e] [] q] X.env = [(false, eval (Expr.Call (.Name "set" p2) [e] [] q) X.env)] := by rfl) :
    FE X E (.Call (.Name "sorted" p) [.Call (.Name "set" p2) [e] [] q] [] pos) (dAppF ssetF (dCons fe dNil)) :=
  (pe_callB (cr_sortedSet g.calm) hg hm (by kernel_rfl) (pa_cons (pe_callTy (cr_setI g.calm) hg2 hm2 (by kernel_rfl) (pa_cons he pa_nil hs) (by decide) (by decide) hs rfl) pa_nil hs2) (by decide) (by decide) hs2 rfl).imp fun σ H Q ⟨as, δ, S, sr, er, w⟩ => by
  have w : WF (wd X) (E σ) as H ((fe δ S).bind fun d S1 => match ssetF [d] S1 with
    | some ps => .ok ps S1
    | none => .bad) Q := by
    have e1 : dAppF ssetF (dCons fe dNil) δ S = (fe δ S).bind fun d S1 => match ssetF [d] S1 with
      | some ps => .ok ps S1
      | none => .bad := by
      show (Res.bind (Res.bind (fe δ S) _) _) = _
      cases fe δ S <;> rfl
    rw [← e1]
    exact w
  refine ⟨as, δ, S, sr, er, (WF.bind (R := DVR (wd X)) w).mono fun _ _ _ _ v _ _ _ _ ⟨as1, S1, d1, _, x1, s1, r1, w1⟩ => ?_⟩
  cases d1 with
  | c n => exact w1.elim
  | p x =>
  cases x with
  | tup xs =>
    cases r1 with
    | tup h t =>
      cases e1 : intsOf xs with
      | none => simp only [ssetF, e1] at w1; exact w1.elim
      | some ns =>
        by_cases h64 : ns.length < 64
        case neg => simp only [ssetF, e1, if_neg h64] at w1; exact w1.elim
        simp only [ssetF, e1, if_pos h64] at w1
        rw [intsOf_ok e1] at t
        have q2 := h.sq
        rw [t.ints] at q2
        refine ⟨_, ns, rfl, q2, by omega, fun a c na hc => ⟨a, _, c, rfl, upd_same, by omega, fun ns' p asc mem len np => ?_⟩⟩
        have en : ns' = srtU ns := asc_same asc (srtU_asc ns) fun k => by rw [mem k, srtU_mem]; simp
        subst en
        have x2 := ext_new (o := SetO X.w a (fun j => decide (j ∈ ns)) c) s1 na
        exact (WF.later x2 w1).here (s1.new na) (by rw [List.length_map, sizeLine_eq]; omega) (PRs.of_ints _) np
  | _ => exact w1.elim
end
end
end DL
namespace DL
noncomputable section
open PySem PySem.Spec PyProof.Rows L2
/-! ### a + b of two lists, as a new list -/
def catF (a b : DV) (S : AH) : Res (List PV) := match lstOf a S, lstOf b S with
  | some xs, some ys => if xs.length + ys.length ≤ 16777216 then .ok (xs ++ ys) S else .bad
  | _, _ => .bad
def dCat (fa fb : Sig → AH → Res DV) : Sig → AH → Res (List PV) := fun δ S => (fa δ S).bind fun a S => (fb δ S).bind fun b S => catF a b S
section
variable {X : Cx} {E : L2.St → XK} {a b : Expr} {pos : Pos} {fa fb : Sig → AH → Res DV}
theorem fe_cat (ha : DE X E a fa) (hb : DE X E b fb) : FE X E (.BinOp a .Add b pos) (dCat fa fb) := (pe_op op_cat ha hb).imp fun σ H Q ⟨as, δ, S, sr, er, w⟩ =>
  ⟨as, δ, S, sr, er, (WF.bind w).mono fun _ _ _ _ _ _ _ _ _ ⟨as1, S1, d1, _, x1, s1, r1, w1⟩ => ⟨as1, δ, S1, s1, er.mono x1.w, (WF.bind w1).mono fun _ _ _ _ _ _ _ _ _ ⟨as2, S2, d2, _, x2, s2, r2, w2⟩ => by
    unfold catF at w2
    split at w2
    · rename_i xs ys e1 e2
      obtain ⟨p, vs, rfl, z1, h1, t1⟩ := lstOf_at s2 (r1.mono x2.w) e1
      obtain ⟨q, ws, rfl, z2, h2, t2⟩ := lstOf_at s2 r2 e2
      split at w2
      · rename_i z
        have z : vs.length + ws.length ≤ sizeLine := by
          rw [t1.length, t2.length, show sizeLine = 16777216 by decide]; exact z
        exact ⟨_, _, _, _, rfl, rfl, h1, h2, z, fun p n => w2.here s2 (by rw [List.length_append]; exact z) (t1.append t2) n⟩
      · exact w2.elim
    · exact w2.elim⟩⟩
end
section
variable {δ : Sig} {S : AH} {fa fb : Sig → AH → Res DV}
def kCat (fb : Sig → AH → Res DV) (δ : Sig) (a : DV) (S : AH) : Res (List PV) := (fb δ S).bind (catF a)
@[simp] theorem ev_cat : dCat fa fb δ S = (fa δ S).bind (kCat fb δ) := (rfl)
@[simp] theorem ev_kCat {a : DV} : kCat fb δ a S = (fb δ S).bind (catF a) := (rfl)
theorem catF_ok {a b : DV} {xs ys : List PV} (h1 : lstOf a S = some xs) (h2 : lstOf b S = some ys) (z : xs.length + ys.length ≤ 16777216) : catF a b S = .ok (xs ++ ys) S := by
  unfold catF
  simp only [h1, h2]
  rw [if_pos z]
end
end
end DL
/-! D23: loops over a list that must stay, three cells at the end, remove, max and min of lists. -/
namespace DL
open PySem L2
section
variable {q : Pat} {fb : Sig → AH → Out} {δ : Sig} {S : AH} {ck : AH → Prop}
theorem for_nilC (h : ck S) : forGo ck q fb [] δ S = .nx δ S := by
  unfold forGo
  rw [if_pos h]
theorem for_consC {x : DV} {xs : List DV} {δ1 : Sig} (h0 : ck S) (h : q.set x δ = some δ1) : forGo ck q fb (x :: xs) δ S = afterTurn (fb δ1 S) (forGo ck q fb xs) := by
  conv => lhs; unfold forGo
  rw [if_pos h0]
  simp only [h]
  unfold afterTurn
  rfl
theorem for_nmC {i : Nat} {x : DV} {xs : List DV} (h0 : ck S) : forGo ck (.nm i) fb (x :: xs) δ S = afterTurn (fb (δ.set i (some x)) S) (forGo ck (.nm i) fb xs) := for_consC h0 rfl
end
section
variable {R : AH} {A B C : Cell}
theorem tri_get0 : (R ++ [A, B, C])[R.length]? = some A := by simp
theorem tri_get1 : (R ++ [A, B, C])[R.length + 1]? = some B := by
  rw [List.getElem?_append_right (by omega)]; simp
theorem tri_get2 : (R ++ [A, B, C])[R.length + 2]? = some C := by
  rw [List.getElem?_append_right (by omega)]; simp
theorem tri_set0 {X : Cell} : (R ++ [A, B, C]).set R.length X = R ++ [X, B, C] := by simp
theorem tri_set1 {X : Cell} : (R ++ [A, B, C]).set (R.length + 1) X = R ++ [A, X, C] := by
  rw [List.set_append_right _ _ (by omega)]; simp
theorem tri_set2 {X : Cell} : (R ++ [A, B, C]).set (R.length + 2) X = R ++ [A, B, X] := by
  rw [List.set_append_right _ _ (by omega)]; simp
theorem tri_take : (R ++ [A, B, C]).take R.length = R := by simp
end
theorem rem_c {n : Nat} {l : List Int} {b : Int} {S : AH} (h : S[n]? = some (.lst (l.map PV.int))) (hb : b ∈ l) : remM (.c n) [.p (.int b)] S = some (.p .non, S.set n (.lst ((l.erase b).map PV.int))) := by
  unfold remM
  simp only [h, intsOf_map, if_pos hb]
theorem max_items {d : DV} {l : List Int} {S : AH} (h : litems d S = some (l.map PV.int)) (hn : l ≠ []) : maxO [d] S = some (.p (.int (maxI l)), S) := by
  unfold maxO
  split
  · next e => cases e
  · next e => cases e; simp only [h, intsOf_map, if_pos hn]
  · next e1 e2 => exact absurd rfl (e2 _)
theorem min_items {d : DV} {l : List Int} {S : AH} (h : litems d S = some (l.map PV.int)) (hn : l ≠ []) : minO [d] S = some (.p (.int (minI l)), S) := by
  unfold minO
  split
  · next e => cases e
  · next e => cases e; simp only [h, intsOf_map, if_pos hn]
  · next e1 e2 => exact absurd rfl (e2 _)
theorem max_c {n : Nat} {l : List Int} {S : AH} (h : S[n]? = some (.lst (l.map PV.int))) (hn : l ≠ []) : maxO [.c n] S = some (.p (.int (maxI l)), S) := max_items (litems_c h) hn
theorem min_c {n : Nat} {l : List Int} {S : AH} (h : S[n]? = some (.lst (l.map PV.int))) (hn : l ≠ []) : minO [.c n] S = some (.p (.int (minI l)), S) := min_items (litems_c h) hn
theorem max_lst {l : List Int} {S : AH} (hn : l ≠ []) : maxO [.p (.lst (l.map PV.int))] S = some (.p (.int (maxI l)), S) := max_items rfl hn
theorem min_lst {l : List Int} {S : AH} (hn : l ≠ []) : minO [.p (.lst (l.map PV.int))] S = some (.p (.int (minI l)), S) := min_items rfl hn
/-- the last one -/
theorem atI_last {α : Type} {xs : List α} {x : α} : atI (xs ++ [x]) (-1) = some x := by
  unfold atI ixN
  rw [List.length_append, if_neg (by omega), if_pos (by simp; omega)]
  have e : ((-1 : Int) + ((xs.length + [x].length : Nat) : Int)).toNat = xs.length := by simp; omega
  rw [e]
  simp
theorem cnt_c {n : Nat} {l : List Int} {k : Int} {S : AH} (h : S[n]? = some (.lst (l.map PV.int))) : cntM (.c n) [.p (.int k)] S = some (.p (.int (l.count k : Nat)), S) := by
  unfold cntM
  simp only [litems_c h, Option.bind_some, intsOf_map]
theorem cnt_lst {l : List Int} {k : Int} {S : AH} : cntM (.p (.lst (l.map PV.int))) [.p (.int k)] S = some (.p (.int (l.count k : Nat)), S) := by
  unfold cntM
  simp only [litems_lst, Option.bind_some, intsOf_map]
/-- statement by statement -/
theorem sq_step {f g : Sig → AH → Out} {δ δ1 : Sig} {S S1 : AH} {o : Out} (h : f δ S = .nx δ1 S1) (h2 : g δ1 S1 = o) : dSeq f g δ S = o := by
  rw [ev_seq, h, seq_nx, h2]
theorem cutL_last {α : Type} {xs : List α} : cutL xs none (some (-1)) = xs.dropLast := by
  unfold cutL
  have e1 : HT.sIx xs.length xs.length (some (-1)) = xs.length - 1 := by
    show (if (-1 : Int) < 0 then ((-1 : Int) + (xs.length : Int)).toNat else min (-1 : Int).toNat xs.length) = _
    rw [if_pos (by decide)]; omega
  have e2 : HT.sIx xs.length 0 none = 0 := rfl
  rw [e1, e2, List.drop_zero, Nat.sub_zero, List.dropLast_eq_take]
/-- a loop that leaves all but its own name -/
theorem loop_same {fb : Sig → AH → Out} {i : Nat} {δ : Sig} {S : AH} : ∀ (items : List DV) (y0 : Option DV), (∀ x ∈ items, fb (δ.set i (some x)) S = .nx (δ.set i (some x)) S) → ∃ y, forGo ckT (.nm i) fb items (δ.set i y0) S = .nx (δ.set i y) S
  | [], y0, _ => ⟨y0, for_nil⟩
  | x :: items, y0, h => by
    obtain ⟨y, e⟩ := loop_same items (some x) fun z hz => h z (List.mem_cons_of_mem _ hz)
    refine ⟨y, ?_⟩
    rw [for_nm, List.set_set, h x List.mem_cons_self, after_nx, e]
theorem of_dit {vs : List PV} {x : DV} (h : x ∈ dit vs) : ∃ v ∈ vs, x = .p v := by
  obtain ⟨v, hv, rfl⟩ := List.mem_map.mp h
  exact ⟨v, hv, rfl⟩
theorem of_rangeI {lo : Int} {n : Nat} {x : DV} (h : x ∈ rangeI lo n) : ∃ k < n, x = .p (.int (lo + (k : Int))) := by
  rw [rangeI_eq] at h
  obtain ⟨k, hk, rfl⟩ := List.mem_map.mp h
  exact ⟨k, List.mem_range.mp hk, rfl⟩
end DL
/-! D24: x.count(k) of a list or a tuple of numbers. -/
namespace DL
open PySem PySem.Spec PyProof.Rows L2
section
variable {X : Cx}
theorem mt_tcount : MtR X "tuple.count" (fun x xs H Q => ∃ (p : Addr) (ns : List Int) (k : Int), x = .ref p ∧ xs = [.int k] ∧ SqT X.K H p (ns.map V.int) ∧ Q (.int (ns.count k : Nat)) H) := by
  rintro pins s σ H x xs v us Q I rx rxs ⟨p, ns, k, rfl, rfl, hs, q⟩
  cases rx
  obtain ⟨u, rfl, t, rfl⟩ := rxs.one
  obtain ⟨its, rv, ⟨⟨cls, dd, data, sl⟩, ho, hc, n, hd⟩, hlen⟩ := I.tuple hs
  simp only at hc hd
  subst hc hd
  have hi := ints_of_vals rv
  have ec : its.toArray.toList.countP (eqk k) = ns.count k := eqk_count hi
  refine call_meets PySem.F.slot_tuple_count ⟨_, ho, rfl⟩ PySem.F.entry_tuple_count (PySem.F.args_tuple_count_2 _ _)
    (SeqAt.tuple_countAt p its.toArray n dd sl (.int k t) (eqk k)) ⟨ho, fun y hy => (eqk_gives hi y (by simpa using hy)).at _ _, V.int (ns.count k : Nat), H, I.tok _, ⟨s.toks, ?_⟩, q⟩
  show Value.int ((its.toArray.toList.countP (eqk k) : Nat) : Int) s.toks = _
  rw [ec]
/-- a tuple without a dict of its own -/
def tyT (K : PySem.W.Frag) (x : V) (H : Hp) : Prop := ∃ p, x = .ref p ∧ ((∃ o xs, o.dict = none ∧ H p = some (.frz o (.tup xs))) ∨ (∃ o, K.lookup p = some o ∧ o.cls = .type "tuple" ∧ o.dict = none))
theorem tyT_is {pins : List (Addr × Obj)} {σ : L2.St} {H : Hp} {s : Shared} {x : V} {v : Value} (I : Inv X pins σ H s) (r : RelV x v) (ty : tyT X.K x H) :
    s.TypeIs v "tuple" ∧ ∀ a, v = .ref a → ∃ ob, s.heap.get? a = some ob ∧ ob.dict = none := by
  obtain ⟨p, rfl, h⟩ := ty
  cases r
  have k : ∃ o : Obj, s.heap.get? p = some o ∧ o.cls = .type "tuple" ∧ o.dict = none := by
    rcases h with ⟨o, xs, hd, e⟩ | ⟨o, e, hc, hd⟩
    · obtain ⟨g, _, its, _, o2, g2, hc, _⟩ := I.hok p _ e
      have : o2 = o := Option.some.inj (g2.symm.trans g)
      subst this
      exact ⟨o2, g2, hc, hd⟩
    · exact ⟨o, I.kIn p o e, hc, hd⟩
  obtain ⟨o, g, hc, hd⟩ := k
  exact ⟨⟨o, g, hc⟩, fun a e => by cases e; exact ⟨o, g, hd⟩⟩
theorem RdT.ty {K : PySem.W.Frag} {as : As} {H : Hp} {a : Addr} {xs : List V} (h : RdT K as H a xs) : tyT K (.ref a) H := by
  rcases h.2 with ⟨⟨o, d, e⟩, _⟩ | ⟨o, its, n, h1, h2, h3, _⟩
  · exact ⟨a, rfl, .inl ⟨o, xs, d, e⟩⟩
  · exact ⟨a, rfl, .inr ⟨o, h1, h2, h3⟩⟩
/-- a method of a list or a tuple -/
theorem pe_mLT {o e : Expr} {es : List Expr} {to : TE} {t : TA} {name : Str} {apos cpos : Pos} {i1 i2 : String} {r1 r2 : V → List V → Hp → VK → Prop}
    (s1 : Slot "list" name i1) (s2 : Slot "tuple" name i2) (y1 : typeOf (.builtin i1) = pure (.type "method_descriptor")) (y2 : typeOf (.builtin i2) = pure (.type "method_descriptor")) (m1 : MtR X i1 r1) (m2 : MtR X i2 r2) (ho : PE X o to) (ha : PA X (e :: es) t)
    (hbase : attributeBase o name X.env (eval o X.env) = eval o X.env)
    (hfew : ((backTo cpos (starEach (e :: es) X.env)).all (fun x => !x.1) && (backToKw cpos (keywordEach [] X.env)).all (fun x => x.1.isSome) && decide ((e :: es).length + ([] : List Keyword).length + (if ([] : List Keyword).isEmpty then 0 else 1) < 30)) = true)
    (hline : (apos.endLine == cpos.line) = true) (hs : starEach (e :: es) X.env = (false, eval e X.env) :: starEach es X.env) (hp : (backTo cpos (starEach es X.env)).any (·.1) = false) :
    PE X (.Call (.Attribute o name apos) (e :: es) [] cpos) (fun σ H Q => to σ H fun x H1 => (tyV X.K "list" x H1 ∧ t σ H1 fun xs H2 => r1 x xs H2 Q) ∨ (tyT X.K x H1 ∧ t σ H1 fun xs H2 => r2 x xs H2 Q)) := by
  constructor
  intro pins s σ H Q I h
  refine wpAny_Call_method_late hbase hfew hline rfl (thn (ho.run pins s σ H _ I h) fun v w1 ⟨x, H1, I1, rv, q⟩ => ?_)
  rcases q with ⟨ty, q1⟩ | ⟨ty, q1⟩
  · obtain ⟨h1, h2⟩ := tyV_is I1 rv ty
    refine ⟨"list", i1, PySem.F.plainAttrs_list, s1, y1, h1, h2, ?_⟩
    have hA := ha.run cpos pins w1 σ H1 _ I1 q1
    rw [hs] at hA ⊢
    exact Calls.callWith_builtin (by show (false || (backTo cpos (starEach es X.env)).any (·.1)) = false; rw [hp]; rfl) (Calls.evalArgs_plain (thn hA fun us w2 ⟨vs, H2, I2, r2, q2⟩ => m1 pins w2 σ H2 x vs v us Q I2 rv r2 q2))
  · obtain ⟨h1, h2⟩ := tyT_is I1 rv ty
    refine ⟨"tuple", i2, PySem.F.plainAttrs_tuple, s2, y2, h1, h2, ?_⟩
    have hA := ha.run cpos pins w1 σ H1 _ I1 q1
    rw [hs] at hA ⊢
    exact Calls.callWith_builtin (by show (false || (backTo cpos (starEach es X.env)).any (·.1)) = false; rw [hp]; rfl) (Calls.evalArgs_plain (thn hA fun us w2 ⟨vs, H2, I2, r2, q2⟩ => m2 pins w2 σ H2 x vs v us Q I2 rv r2 q2))
end
/-! ### in the layer -/
def cntT : OpM := fun d ds S => match d, ds with
  | .p (.tup xs), [.p (.int k)] => match intsOf xs with
    | some ns => some (.p (.int (ns.count k : Nat)), S)
    | none => none
  | _, _ => none
def kCntT (xs : List PV) (ds : List DV) (S : AH) : Res DV := lift (cntT (.p (.tup xs)) ds S)
def kCnt (fs : Sig → AH → Res (List DV)) (δ : Sig) (d : DV) (S : AH) : Res DV := match d with
  | .p (.tup xs) => (fs δ S).bind (kCntT xs)
  | d => kMeth cntM fs δ d S
def dCnt (fo : Sig → AH → Res DV) (fs : Sig → AH → Res (List DV)) : Sig → AH → Res DV := fun δ S => (fo δ S).bind (kCnt fs δ)
section
variable {X : Cx} {E : L2.St → XK} {ob e : Expr} {es : List Expr} {name : Str} {apos cpos : Pos} {fo : Sig → AH → Res DV} {fs : Sig → AH → Res (List DV)}
theorem ow_cntT : MtR X "tuple.count" (rMD (wd X) cntT) := by
  intro pins s σ H x vs v us Q I rx rv h
  obtain ⟨as, S, d, ds, sr, r1, r2, w⟩ := h
  unfold cntT at w
  split at w
  · obtain ⟨y, rfl, ry⟩ := DVRs.one r2
    cases ry
    split at w
    · rename_i ns e
      cases r1 with
      | tup h t =>
        rw [intsOf_ok e] at t
        have hs := h.sq
        rw [t.ints] at hs
        exact mt_tcount pins s σ H _ _ v us Q I rx rv ⟨_, ns, _, rfl, rfl, hs, w.here sr (.int _)⟩
    · exact w.elim
  · exact w.elim
theorem de_cnt (slot : Slot "list" name "list.count") (slot2 : Slot "tuple" name "tuple.count") (ho : DE X E ob fo) (ha : DA X E (e :: es) fs)
    (hbase : attributeBase ob name X.env (eval ob X.env) = eval ob X.env := by rfl)
    (hfew : ((backTo cpos (starEach (e :: es) X.env)).all (fun x => !x.1) && (backToKw cpos (keywordEach [] X.env)).all (fun x => x.1.isSome) && decide ((e :: es).length + ([] : List Keyword).length + (if ([] : List Keyword).isEmpty then 0 else 1) < 30)) = true := by rfl)
    (hline : (apos.endLine == cpos.line) = true := by rfl) (hs : starEach (e :: es) X.env = (false, eval e X.env) :: starEach es X.env := by rfl) (hp : (backTo cpos (starEach es X.env)).any (·.1) = false := by rfl) :
    DE X E (.Call (.Attribute ob name apos) (e :: es) [] cpos) (dCnt fo fs) :=
  (pe_mLT slot slot2 PySem.F.type_list_count PySem.F.type_tuple_count ow_count ow_cntT ho ha hbase hfew hline hs hp).imp fun σ H Q ⟨as, δ, S, sr, er, w⟩ =>
    ⟨as, δ, S, sr, er, w.bind.mono fun _ _ _ _ _ _ _ _ _ ⟨as1, S1, d1, _, x1, s1, r1, w1⟩ => by
      unfold kCnt at w1
      split at w1
      · cases r1 with
        | tup h t =>
          refine .inr ⟨h.ty, as1, δ, S1, s1, er.mono x1.w, w1.bind.mono fun _ _ _ _ _ _ _ _ _ ⟨as2, S2, d2, _, x2, s2, r2, w2⟩ => ?_⟩
          exact ⟨as2, S2, _, d2, s2, (DVR.mono (d := .p (.tup _)) x2.w (.tup h t)), r2, w2.wo⟩
      · unfold kMeth at w1
        split at w1
        · rename_i e1
          obtain ⟨a, vs, rfl, q⟩ := isLst_sq s1 r1 e1
          exact .inl ⟨.inl ⟨rfl, _, q⟩, as1, δ, S1, s1, er.mono x1.w, w1.bind.mono fun _ _ _ _ _ _ _ _ _ ⟨as2, S2, d2, _, x2, s2, r2, w2⟩ => ⟨as2, S2, d1, d2, s2, r1.mono x2.w, r2, w2.wo⟩⟩
        · exact w1.elim⟩
theorem ow_idx : MtR X "list.index" (rMD (wd X) idxM) := by
  intro pins s σ H x vs v us Q I rx rv h
  obtain ⟨as, S, d, ds, sr, r1, r2, w⟩ := h
  unfold idxM at w
  split at w
  · rename_i k
    obtain ⟨y, rfl, ry⟩ := DVRs.one r2
    cases ry
    split at w
    · rename_i ns e
      simp only [Option.bind_eq_some_iff] at e
      obtain ⟨xs, e1, e2⟩ := e
      obtain ⟨a, ws, rfl, z, q, t⟩ := litems_sq sr r1 e1
      rw [intsOf_ok e2] at t
      rw [t.ints] at q
      split at w
      · rename_i hk
        have hi : ns.idxOf k < ns.length := List.idxOf_lt_length_of_mem hk
        refine mt_index pins s σ H _ _ v us Q I rx rv ⟨a, _, _, ns.idxOf k, .int k, rfl, rfl, q, rfl, ?_, ?_, ?_, ?_, w.here sr (.int _)⟩
        · rw [List.all_map]; exact List.all_eq_true.mpr fun _ _ => rfl
        · rw [List.getElem?_map, List.getElem?_eq_getElem hi, List.getElem_idxOf]; rfl
        · simp [eqV]
        · intro m z' hm hz
          rw [List.getElem?_map] at hz
          obtain ⟨i, hi2, rfl⟩ := Option.map_eq_some_iff.mp hz
          have hne := idxOf_first ns k m hm
          have : i ≠ k := fun e => hne (by rw [hi2, e])
          simp [eqV, this]
      · exact w.elim
    · exact w.elim
  · exact w.elim
end
@[simp] theorem ev_cnt {fo : Sig → AH → Res DV} {fs : Sig → AH → Res (List DV)} {δ : Sig} {S : AH} : dCnt fo fs δ S = (fo δ S).bind (kCnt fs δ) := (rfl)
@[simp] theorem kCnt_tup {fs : Sig → AH → Res (List DV)} {δ : Sig} {S : AH} {xs : List PV} : kCnt fs δ (.p (.tup xs)) S = (fs δ S).bind (kCntT xs) := (rfl)
@[simp] theorem kCntT_ints {ns : List Int} {k : Int} {S : AH} : kCntT (ns.map PV.int) [.p (.int k)] S = .ok (.p (.int (ns.count k : Nat))) S := by
  unfold kCntT cntT
  simp only [intsOf_map]
  rfl
@[simp] theorem kCnt_lst {fs : Sig → AH → Res (List DV)} {δ : Sig} {S : AH} {xs : List PV} : kCnt fs δ (.p (.lst xs)) S = (fs δ S).bind (kMeth2 cntM (.p (.lst xs))) := ev_kMeth litems_lst
theorem kCnt_c {fs : Sig → AH → Res (List DV)} {δ : Sig} {S : AH} {n : Nat} {xs : List PV} (h : S[n]? = some (.lst xs)) : kCnt fs δ (.c n) S = (fs δ S).bind (kMeth2 cntM (.c n)) := ev_kMeth (litems_c h)
theorem idx_lst {ns : List Int} {k : Int} {S : AH} (h : k ∈ ns) : idxM (.p (.lst (ns.map PV.int))) [.p (.int k)] S = some (.p (.int (ns.idxOf k : Nat)), S) := by
  unfold idxM
  simp only [litems_lst, Option.bind_some, intsOf_map, if_pos h]
end DL
/-! D25: dicts with numbers as keys: dict(t) of a tuple of pairs, d[k], k in d, d.get(k, x). -/
namespace DL
open PySem PySem.Spec PyProof.Rows L2
def lookD (kvs : List (Int × PV)) (k : Int) : Option PV := (kvs.find? fun p => decide (p.1 = k)).map (·.2)
section
variable {M : Wd} {as : As} {H : Hp}
theorem dzip_val : ∀ {kvs : List (Int × PV)} {vs : List V}, PRs M as H vs (kvs.map (·.2)) → ∀ k : Int, (valV (dzip kvs vs) (Sum.inl k) = none ∧ lookD kvs k = none) ∨ (∃ v p, valV (dzip kvs vs) (Sum.inl k) = some v ∧ lookD kvs k = some p ∧ PR M as H v p)
  | [], _, _, k => .inl ⟨rfl, rfl⟩
  | (j, x) :: kvs, [], r, k => by cases r
  | (j, x) :: kvs, v :: vs, r, k => by
    cases r with
    | cons h t =>
      have ih := dzip_val t k
      have e : dzip ((j, x) :: kvs) (v :: vs) = ((Sum.inl j : Key), v) :: dzip kvs vs := rfl
      by_cases q : j = k
      · subst q
        refine .inr ⟨v, x, ?_, ?_, h⟩
        · rw [e]; unfold valV; simp
        · unfold lookD; simp
      · have q2 : ¬ ((Sum.inl j : Key) = Sum.inl k) := fun z => q (Sum.inl.inj z)
        have e1 : valV (dzip ((j, x) :: kvs) (v :: vs)) (Sum.inl k) = valV (dzip kvs vs) (Sum.inl k) := by rw [e]; unfold valV; simp [q]
        have e2 : lookD ((j, x) :: kvs) k = lookD kvs k := by unfold lookD; simp [q]
        rw [e1, e2]
        exact ih
end
/-- the pairs of a tuple -/
def pairOf : PV → Option (Int × PV)
  | .tup [.int k, v] => some (k, v)
  | _ => none
def pairsOf : List PV → Option (List (Int × PV))
  | [] => some []
  | x :: xs => (pairOf x).bind fun p => (pairsOf xs).map fun r => p :: r
def pairsD : DV → Option (List (Int × PV))
  | .p (.tup xs) => pairsOf xs
  | _ => none
open Classical in
def dDict (fs : Sig → AH → Res (List DV)) : Sig → AH → Res DV := fun δ S => (fs δ S).bind fun ds S => match ds with
  | [d] => match pairsD d with
    | some kvs => if (kvs.map (·.1)).Nodup then .ok (.c S.length) (S ++ [.dct kvs]) else .bad
    | none => .bad
  | _ => .bad
theorem mergeK_nodup : ∀ (more kvs : List (Key × V)), ((kvs ++ more).map (·.1)).Nodup → mergeK kvs more = kvs ++ more
  | [], kvs, _ => by rw [List.append_nil]; rfl
  | p :: more, kvs, h => by
    have nm : ∀ q ∈ kvs, q.1 ≠ p.1 := fun q hq e => by
      rw [List.map_append, List.nodup_append] at h
      exact h.2.2 q.1 (List.mem_map.mpr ⟨q, hq, rfl⟩) p.1 (by simp) e
    have e : putK kvs p.1 p.2 = kvs ++ [p] := by
      unfold putK
      rw [if_neg]
      intro z
      obtain ⟨q, hq, hz⟩ := List.any_eq_true.mp z
      exact nm q hq (by simpa using hz)
    show mergeK (putK kvs p.1 p.2) more = _
    rw [e, mergeK_nodup more (kvs ++ [p]) (by simpa using h)]
    simp
section
variable {X : Cx}
/-- dict(t) of a tuple of pairs -/
theorem call_dictT (hcalm : X.calm = true) : CallR X (.type "dict") (fun xs H Q => ∃ (a : Addr) (ps : List Addr) (kvs : List (Key × V)), xs = [.ref a] ∧ SqT X.K H a (ps.map V.ref) ∧ tyT X.K (.ref a) H ∧ Paired (fun p kv => SqT X.K H p [kV kv.1, kv.2]) ps kvs ∧
    ∀ p, H p = none → Q (.ref p) (upd H p (.dK (mergeK [] kvs)))) := by
  rintro pins s σ H xs us Q I r ⟨a, ps, kvs, rfl, hq, ty, hp, q⟩
  obtain ⟨u, rfl, rx⟩ := vals1 r
  cases rx
  obtain ⟨its, rv, ⟨o, ho, hc, n, hd⟩, hz⟩ := I.tuple hq
  have ei := refs_at rv
  subst ei
  rw [List.length_map] at hz
  obtain ⟨_, nd⟩ := tyT_is (v := Value.ref a) I (show L2.RelV (V.ref a) (Value.ref a) from rfl) ty
  obtain ⟨o2, ho2, hdn⟩ := nd a rfl
  have eo : o2 = o := Option.some.inj (ho2.symm.trans ho)
  subst eo
  obtain ⟨prs, rel, hl, hpr⟩ := pairs_of I hp
  have items : ∃ rps : List (Value × Value), rps.length = prs.length ∧ ∀ (j : Nat) (k v : Value), rps[j]? = some (k, v) → ∃ (b : Addr) (p : Key × Value), prs[j]? = some p ∧ ps[j]? = some b ∧ p.2 = v ∧ keyIs p.1 k = true ∧ IsTup s.heap b #[k, v] := by
    have go : ∀ (prs : List (Key × Value)) (ps : List Addr), (∀ (j : Nat) (q : Key × Value), prs[j]? = some q → ∃ (b : Addr) (u : Value), ps[j]? = some b ∧ IsTup s.heap b #[u, q.2] ∧ keyIs q.1 u = true) →
        ∃ rps : List (Value × Value), rps.length = prs.length ∧ ∀ (j : Nat) (k v : Value), rps[j]? = some (k, v) → ∃ (b : Addr) (p : Key × Value), prs[j]? = some p ∧ ps[j]? = some b ∧ p.2 = v ∧ keyIs p.1 k = true ∧ IsTup s.heap b #[k, v] := by
      intro prs
      induction prs with
      | nil => intro ps _; exact ⟨[], rfl, fun j k v e => by simp at e⟩
      | cons p prs ih =>
        intro ps h
        obtain ⟨b, u, e1, e2, e3⟩ := h 0 p rfl
        cases ps with
        | nil => simp at e1
        | cons b' ps =>
          obtain ⟨rps, l, f⟩ := ih ps (fun j q e => by simpa using h (j + 1) q (by simpa using e))
          refine ⟨(u, p.2) :: rps, by simp [l], fun j k v e => ?_⟩
          cases j with
          | zero =>
            have e' : (u, p.2) = (k, v) := Option.some.inj e
            cases e'
            exact ⟨b, p, rfl, e1, rfl, e3, e2⟩
          | succ j =>
            obtain ⟨b2, p2, f1, f2, f3⟩ := f j k v (by simpa using e)
            exact ⟨b2, p2, by simpa using f1, by simpa using f2, f3⟩
    exact go prs ps hpr
  obtain ⟨rps, rl, rf⟩ := items
  refine PySem.call_dict_pairs (knd := mixKind X.prog X.w) (kvs := prs) (PairArg.tuple a (ps.map Value.ref).toArray (fun j => ps.getD j 0) rps) (I.ok.hd hcalm) ⟨⟨o2, n, ho, hc, hdn, hd⟩, by simp [rl, hl], fun j k v e => ?_⟩ ⟨rl.symm, fun j k v e => ?_⟩ (by rw [rl, hl]; exact hz) fun h' tk hd' k => ?_
  · obtain ⟨b, p, f1, f2, f3, f4, f5⟩ := rf j k v e
    have gb : ps.getD j 0 = b := by rw [List.getD_eq_getElem?_getD, f2]; rfl
    obtain ⟨ot, h1, h2, m, h3⟩ := f5
    exact ⟨by show (ps.map Value.ref).toArray[j]? = some (Value.ref (ps.getD j 0)); rw [gb]; simp [f2], by show PairAt s.heap (ps.getD j 0) k v; rw [gb]; exact .inl ⟨ot, h1, h2, m, h3⟩⟩
  · obtain ⟨b, p, f1, f2, f3, f4, f5⟩ := rf j k v e
    exact ⟨p.1, by rw [f1, ← f3], f4⟩
  · have hm : (s.heap.objs.size == sysModules) = false := beq_eq_false_iff_ne.mpr (Nat.ne_of_gt I.big)
    have hlen : (mergeK [] kvs).length ≤ sizeLine := by
      have := length_mergeK kvs []
      rw [List.length_nil, Nat.zero_add, rel.length, hl] at this
      omega
    have J := I.laid (t' := tk) (o := .dK (mergeK [] kvs)) (fun b w e => k b w (by simp) e) (Nat.le_refl _) ⟨hlen, hm, merged [] prs, KV.merge rel .nil, hd'⟩
    exact ⟨.ref s.heap.objs.size, _, J, rfl, q _ (I.hok.fresh (Nat.le_refl _))⟩
theorem pairs_rel {M : Wd} {as : As} {H : Hp} : ∀ {xs : List PV} {us : List V} {kvs : List (Int × PV)}, PRs M as H us xs → pairsOf xs = some kvs → ∃ (ps : List Addr) (vs : List V), us = ps.map V.ref ∧ PRs M as H vs (kvs.map (·.2)) ∧ vs.length = us.length ∧ Paired (fun (p : Addr) (kv : Key × V) => SqT M.K H p [kV kv.1, kv.2]) ps (dzip kvs vs)
  | [], us, kvs, r, e => by
    cases r
    have : [] = kvs := Option.some.inj e
    subst this
    exact ⟨[], [], rfl, .nil, rfl, .nil⟩
  | x :: xs, us, kvs, r, e => by
    cases r with
    | cons h t =>
      rename_i u us
      simp only [pairsOf, Option.bind_eq_some_iff, Option.map_eq_some_iff] at e
      obtain ⟨⟨k, v⟩, e1, kvs', e2, rfl⟩ := e
      obtain ⟨ps, vs, rfl, q1, q2, q3⟩ := pairs_rel t e2
      unfold pairOf at e1
      split at e1
      · cases e1
        cases h with
        | tup hr ht =>
          cases ht with
          | cons hk ht =>
            cases hk
            cases ht with
            | cons hv ht =>
              cases ht
              exact ⟨_ :: ps, _ :: vs, rfl, .cons hv q1, by simp [q2], .cons hr.sq q3⟩
      · cases e1
end
section
variable {X : Cx} {E : L2.St → XK} {a b c : Expr} {es : List Expr} {p pos apos cpos : Pos} {x : Str} {fa fb fc : Sig → AH → Res DV} {fs : Sig → AH → Res (List DV)}
theorem de_dict (g : Gd X E) (hg : Gl X "dict") (hm : X.mg "dict" = none) (ha : DA X E (a :: es) fs)
    (he : starEach (a :: es) X.env = (false, eval a X.env) :: starEach es X.env := by rfl) (hpl : (backTo pos (starEach es X.env)).any (·.1) = false := by rfl) : DE X E (.Call (.Name "dict" p) (a :: es) [] pos) (dDict fs) :=
  (pe_callTy (call_dictT g.calm) hg hm (show bootBuiltins "dict" = some (.type "dict") by decide +kernel) ha (by decide) (by decide) he hpl).imp fun σ H Q ⟨as, δ, S, sr, er, w⟩ =>
    ⟨as, δ, S, sr, er, (WR.bind w).mono fun _ _ _ _ _ _ _ _ _ ⟨as1, S1, ds, _, x1, s1, r1, w1⟩ => by
      split at w1
      · rename_i d
        obtain ⟨v, rfl, rv⟩ := DVRs.one r1
        split at w1
        · rename_i kvs e
          split at w1
          · rename_i nd
            unfold pairsD at e
            split at e
            · cases rv with
              | tup h t =>
                obtain ⟨ps, vs, eu, q1, q2, q3⟩ := pairs_rel t e
                subst eu
                have hl : kvs.length = vs.length := by have := q1.length; simpa using this.symm
                have dm : mergeK [] (dzip kvs vs) = dzip kvs vs := by
                  rw [mergeK_nodup]
                  · rfl
                  · rw [List.nil_append]
                    have : (dzip kvs vs).map (·.1) = (kvs.map (·.1)).map Sum.inl := by
                      unfold dzip
                      rw [List.map_fst_zip (by simp [hl]), List.map_map]
                      rfl
                    rw [this]
                    exact nd.map _ (fun _ _ hne z => hne (Sum.inl.inj z))
                refine ⟨_, ps, dzip kvs vs, rfl, h.sq, h.ty, q3, fun p0 n => ?_⟩
                rw [dm]
                have hz : vs.length ≤ sizeLine := by rw [q2]; exact h.1
                exact w1 (as1.add p0) _ _ (ext_any s1 n) (s1.newAny n ⟨vs, hz, upd_same, q1.mono (ext_any s1 n).w⟩) ⟨p0, by rw [← s1.len]; simp [As.add], rfl⟩
            · cases e
          · exact w1.elim
        · exact w1.elim
      · exact w1.elim⟩
def dctOf (d : DV) (S : AH) : Option (List (Int × PV)) := match d with
  | .c n => match S[n]? with
    | some (.dct kvs) => some kvs
    | _ => none
  | _ => none
theorem dct_at {M : Wd} {as : As} {H : Hp} {S : AH} {d : DV} {v : V} {kvs : List (Int × PV)} (s : SR M as H S) (r : DVR M as H v d) (e : dctOf d S = some kvs) : ∃ a vs, v = .ref a ∧ H a = some (.dK (dzip kvs vs)) ∧ PRs M as H vs (kvs.map (·.2)) := by
  unfold dctOf at e
  split at e
  · split at e
    · rename_i n kvs' e2
      cases e
      obtain ⟨b, vs, eb, z, hb, t⟩ := s.atD e2
      obtain ⟨b2, eb2, rfl⟩ := r
      rw [eb] at eb2; cases eb2
      exact ⟨b, vs, rfl, hb, t⟩
    · cases e
  · cases e
/-- d[k] -/
def dGetK (fo fi : Sig → AH → Res DV) : Sig → AH → Res DV := fun δ S => (fo δ S).bind fun d S => (fi δ S).bind fun i S => match i with
  | .p (.int k) => match (dctOf d S).bind fun kvs => lookD kvs k with
    | some p => .ok (.p p) S
    | none => .bad
  | _ => .bad
/-- k in d -/
def dInK (fi fo : Sig → AH → Res DV) : Sig → AH → Res Bool := fun δ S => (fi δ S).bind fun i S => (fo δ S).bind fun d S => match i with
  | .p (.int k) => match dctOf d S with
    | some kvs => .ok (lookD kvs k).isSome S
    | none => .bad
  | _ => .bad
/-- d.get(k, x) -/
def dGet2 (fo fi fx : Sig → AH → Res DV) : Sig → AH → Res DV := fun δ S => (fo δ S).bind fun d S => if (dctOf d S).isSome = true then (fi δ S).bind fun i S => (fx δ S).bind fun x S => match i with
  | .p (.int k) => match dctOf d S with
    | some kvs => match lookD kvs k with
      | some p => .ok (.p p) S
      | none => .ok x S
    | none => .bad
  | _ => .bad
  else .bad
theorem de_getK (hu : X.A.units + 64 < cLine) (ho : DE X E a fa) (hi : DE X E b fb) (hs : NoSl b := by rfl) : DE X E (.Subscript a b pos) (dGetK fa fb) := (pe_dget (by omega) ho hi hs).imp fun σ H Q ⟨as, δ, S, sr, er, w⟩ =>
  ⟨as, δ, S, sr, er, w.bind.mono fun _ _ _ _ _ _ _ _ _ ⟨as1, S1, d1, _, x1, s1, r1, w1⟩ => ⟨as1, δ, S1, s1, er.mono x1.w, w1.bind.mono fun _ _ _ _ _ _ _ _ _ ⟨as2, S2, d2, _, x2, s2, r2, w2⟩ => by
    cases d2 with
    | c _ => exact w2.elim
    | p x =>
      cases x with
      | int k =>
        cases r2
        dsimp only at w2
        split at w2
        · rename_i p e
          simp only [Option.bind_eq_some_iff] at e
          obtain ⟨kvs, e1, e2⟩ := e
          obtain ⟨ad, vs, rfl, hd, t⟩ := dct_at s2 (r1.mono x2.w) e1
          rcases dzip_val t k with ⟨_, q⟩ | ⟨v, p', q1, q2, q3⟩
          · rw [q] at e2; cases e2
          · rw [q2] at e2; cases e2
            refine ⟨ad, v, rfl, ?_, w2.pure s2 q3⟩
            have := DGet.k (k := Sum.inl k) hd
            rw [q1] at this
            exact this
        · exact w2.elim
      | _ => exact w2.elim⟩⟩
theorem in_t {σ : L2.St} {H : Hp} {Q : VK} {as : As} {δ : Sig} {S : AH} (sr : SR (wd X) as H S) (er : ER (wd X) as H σ δ) (w : WR (wd X) (E σ) RB as H (dInK fa fb δ S) fun k H' => Q (.bl k) H') : tDIn (tD (wd X) E fa) (tD (wd X) E fb) σ H Q :=
  ⟨as, δ, S, sr, er, w.bind.mono fun _ _ _ _ _ _ _ _ _ ⟨as1, S1, d1, _, x1, s1, r1, w1⟩ => ⟨as1, δ, S1, s1, er.mono x1.w, w1.bind.mono fun _ _ _ _ _ _ _ _ _ ⟨as2, S2, d2, _, x2, s2, r2, w2⟩ => by
    cases d1 with
    | c _ => exact w2.elim
    | p x =>
      cases x with
      | int k =>
        cases r1
        dsimp only at w2
        split at w2
        · rename_i kvs e1
          obtain ⟨ad, vs, rfl, hd, t⟩ := dct_at s2 r2 e1
          rcases dzip_val t k with ⟨q1, q2⟩ | ⟨v, p', q1, q2, q3⟩
          · refine ⟨ad, none, rfl, ?_, ?_⟩
            · have := DGet.k (k := Sum.inl k) hd
              rw [q1] at this
              exact this
            · rw [q2] at w2
              exact w2.pure s2 rfl
          · refine ⟨ad, some v, rfl, ?_, ?_⟩
            · have := DGet.k (k := Sum.inl k) hd
              rw [q1] at this
              exact this
            · rw [q2] at w2
              exact w2.pure s2 rfl
        · exact w2.elim
      | _ => exact w2.elim⟩⟩
theorem dt_inK (hu : X.A.units + 64 < cLine) (hi : DE X E a fa) (ho : DE X E b fb) (hm : behindInMarks .In b = false) : DT X E (.Compare a [.In] [b] pos) (dInK fa fb) := (pt_cmp (pc_din (by omega) hi ho) hm).imp fun σ H Q ⟨as, δ, S, sr, er, w⟩ => in_t sr er (w.mono fun _ _ _ _ _ _ _ _ _ q => ⟨_, rfl, q⟩)
theorem de_get2 (hu : X.A.units + 64 < cLine) (ho : DE X E a fa) (hi : DE X E b fb) (hx : DE X E c fc) (m : M2 X a "get" apos b c cpos) : DE X E (.Call (.Attribute a "get" apos) [b, c] [] cpos) (dGet2 fa fb fc) := (pe_dget2 (by omega) ho hi hx m).imp fun σ H Q ⟨as, δ, S, sr, er, w⟩ =>
  ⟨as, δ, S, sr, er, w.bind.mono fun _ _ _ _ _ _ _ _ _ ⟨as1, S1, d1, _, x1, s1, r1, w1⟩ => by
    split at w1
    · rename_i hd0
      obtain ⟨kv0, hk0⟩ := Option.isSome_iff_exists.mp hd0
      obtain ⟨ad0, vs0, rfl, hd0', t0⟩ := dct_at s1 r1 hk0
      refine ⟨ad0, rfl, .inl ⟨_, .inl hd0'⟩, as1, δ, S1, s1, er.mono x1.w, w1.bind.mono fun _ _ _ _ _ _ _ _ _ ⟨as2, S2, d2, _, x2, s2, r2, w2⟩ => ⟨as2, δ, S2, s2, (er.mono x1.w).mono x2.w, w2.bind.mono fun _ _ _ _ _ _ _ _ _ ⟨as3, S3, d3, _, x3, s3, r3, w3⟩ => ?_⟩⟩
      cases d2 with
      | c _ => exact w3.elim
      | p x =>
        cases x with
        | int k =>
          cases r2
          dsimp only at w3
          split at w3
          · rename_i kvs e1
            obtain ⟨ad, vs, e, hd, t⟩ := dct_at s3 ((r1.mono x2.w).mono x3.w) e1
            cases e
            rcases dzip_val t k with ⟨q1, q2⟩ | ⟨v, p', q1, q2, q3⟩
            · refine ⟨none, ?_, ?_⟩
              · have := DGet.k (k := Sum.inl k) hd
                rw [q1] at this
                exact this
              · rw [q2] at w3
                exact w3.pure s3 r3
            · refine ⟨some v, ?_, ?_⟩
              · have := DGet.k (k := Sum.inl k) hd
                rw [q1] at this
                exact this
              · rw [q2] at w3
                exact w3.pure s3 q3
          · exact w3.elim
        | _ => exact w3.elim
    · exact w1.elim⟩
end
section
variable {fo fi fx : Sig → AH → Res DV} {fs : Sig → AH → Res (List DV)} {δ : Sig} {S : AH} {kvs : List (Int × PV)} {d : DV} {k : Int} {x : PV}
noncomputable def kDict (ds : List DV) (S : AH) : Res DV := dDict (fun _ S => .ok ds S) [] S
@[simp] theorem ev_dict : dDict fs δ S = (fs δ S).bind kDict := rfl
theorem ev_kDict {xs : List PV} (e : pairsOf xs = some kvs) (nd : (kvs.map (·.1)).Nodup) : kDict [.p (.tup xs)] S = .ok (.c S.length) (S ++ [.dct kvs]) := by
  have e2 : pairsD (.p (.tup xs)) = some kvs := e
  unfold kDict dDict
  simp only [Res.bind, e2]
  rw [if_pos nd]
theorem ev_getK (ho : fo δ S = .ok d S) (hi : fi δ S = .ok (.p (.int k)) S) (hd : dctOf d S = some kvs) (hk : lookD kvs k = some x) : dGetK fo fi δ S = .ok (.p x) S := by
  unfold dGetK
  rw [ho]
  show (fi δ S).bind _ = _
  rw [hi]
  simp [Res.bind, hd, hk]
theorem ev_inK (ho : fo δ S = .ok d S) (hi : fi δ S = .ok (.p (.int k)) S) (hd : dctOf d S = some kvs) : dInK fi fo δ S = .ok (lookD kvs k).isSome S := by
  unfold dInK
  rw [hi]
  show (fo δ S).bind _ = _
  rw [ho]
  simp [Res.bind, hd]
theorem ev_get2 (ho : fo δ S = .ok d S) (hi : fi δ S = .ok (.p (.int k)) S) (hx : fx δ S = .ok (.p x) S) (hd : dctOf d S = some kvs) : dGet2 fo fi fx δ S = .ok (.p ((lookD kvs k).getD x)) S := by
  unfold dGet2
  rw [ho]
  show (if (dctOf d S).isSome = true then _ else _) = _
  rw [hd]
  simp only [Option.isSome_some, if_true]
  rw [hi]
  show (fx δ S).bind _ = _
  rw [hx]
  simp only [Res.bind, hd]
  cases lookD kvs k <;> rfl
end
end DL
/-! D26: defs within defs; t[::k] of a tuple with k 1 or -1. -/
namespace DL
open PySem PySem.Spec PyProof.Rows L2
/-! ### t[::k] -/
section
variable {prog : Program} {w : World} {A : Around} {E : Value → Shared → Prop} {s : Shared}
theorem applied_one {sl : Addr} {u : Tok} {n : Nat} {Q : Int × Int × Nat → Shared → Prop} (hs : s.heap.IsSliceOf sl .none .none (.int 1 u)) (h : Q (0, 1, n) s) :
    wpAny (model prog w) A (Builtin.Slice.sliceApplied (.ref sl) (pure (n : Int))) Q E s := by
  obtain ⟨os, hos, hcs, hds⟩ := id hs
  unfold Builtin.Slice.sliceApplied Builtin.Slice.sliceFields
  refine wpAny_bind (wpAny_bind (wpAny_field hos hds (x := .none) rfl (wpAny_bind (wpAny_field hos hds (x := .none) rfl (wpAny_bind (wpAny_field hos hds (x := .int 1 u) rfl (wpAny_pure ?_)))))))
  refine wpAny_bind (slicePart_int ?_)
  show wpAny _ _ (if ((1 : Int) == 0) = true then _ else _) _ _ s
  rw [if_neg (by decide)]
  refine wpAny_bind (slicePart_none (wpAny_bind (slicePart_none (wpAny_bind (wpAny_pure ?_)))))
  show wpAny _ _ (match Builtin.Slice.sliceAdjust none none 1 (n : Int) with | (lo, hi) => pure (lo, (1 : Int), Builtin.Slice.slicePlaces lo hi 1)) _ _ s
  have e1 : Builtin.Slice.sliceAdjust none none 1 (n : Int) = (0, (n : Int)) := by
    unfold Builtin.Slice.sliceAdjust
    simp
  rw [e1]
  show wpAny _ _ (pure ((0 : Int), (1 : Int), Builtin.Slice.slicePlaces 0 (n : Int) 1)) _ _ s
  have e2 : Builtin.Slice.slicePlaces 0 (n : Int) 1 = n := by
    unfold Builtin.Slice.slicePlaces
    rw [if_pos (by decide)]
    by_cases hn : n = 0
    · subst hn; rw [if_neg (by decide)]; rfl
    · rw [if_pos (by omega)]
      have : ((n : Int) - 0 - 1) / 1 + 1 = n := by rw [Int.ediv_one]; omega
      rw [this]; exact Int.toNat_natCast n
  rw [e2]
  exact wpAny_pure h
theorem getItem_tuple_one {t sl : Addr} {items : Array Value} {u : Tok} {Q : Value → Shared → Prop} (ht : IsTup s.heap t items) (hs : s.heap.IsSliceOf sl .none .none (.int 1 u))
    (h : Q (.ref t) s) : wpAny (model prog w) A (getItem (.ref t) (.ref sl)) Q E s := by
  obtain ⟨os, hos, hcs, hds⟩ := id hs
  have hTs : s.TypeIs (.ref sl) "slice" := ⟨os, hos, hcs⟩
  unfold getItem
  try with_reducible refine wpAny_holding ?_
  first | refine wpAny_bind (wpAny_pure ?_) | skip
  refine wpAny_bind (wpAny_sequenceKey ht.typeIs (by decide) ?_)
  refine wpAny_bind (wpAny_callSpecial?_slot (name := Str.ofString "__getitem__") ht.typeIs PyProof.Rows.slot_tuple_getitem
    (wpAny_call_entry PyProof.Rows.slot_tuple_getitem ht.typeIs entry_tuple_getitem ?_ (args_tuple_getitem _ _)))
  show wpAny _ _ (Builtin.Tuple.tupleItemsOf (.ref t) >>= _) _ _ s
  refine wpAny_bind (tupleItemsOf_ ht ?_)
  refine wpAny_bind (wpAny_typeOf hTs ?_)
  rw [if_pos (by decide)]
  refine wpAny_bind (applied_one hs ?_)
  have hyes : ((0 : Int) == 0 && (1 : Int) == 1 && items.size == items.size) = true := by simp
  show wpAny _ _ (if ((0 : Int) == 0 && (1 : Int) == 1 && items.size == items.size) = true then _ else _) _ _ s
  rw [if_pos hyes]
  refine wpAny_bind ?_
  show wpAny _ _ (typeOf (.ref t) >>= fun T => pure (T == .type "tuple")) _ _ s
  refine wpAny_bind (wpAny_typeOf ht.typeIs (wpAny_pure ?_))
  first
    | rw [if_pos (by decide)]
    | simp only [beq_self_eq_true, if_true]
  first
    | exact wpAny_bind (wpAny_rule (wpAny_pure ⟨_, rfl, wpAny_pure h⟩))
    | exact wpAny_bind (wpAny_rule (wpAny_bind (wpAny_pure (wpAny_pure ⟨_, rfl, wpAny_pure h⟩))))
end
def tStepT (K : PySem.W.Frag) (te : TE) (tk : TO) : TE := fun σ H Q => te σ H fun x H1 => tk σ H1 fun o H2 => ∃ a xs, x = .ref a ∧ SqT K H2 a xs ∧ ((o = some 1 ∧ Q (.ref a) H2) ∨ (o = some (-1) ∧ NewT H2 Q xs.reverse))
theorem pe_stepT {X : Cx} {e k : Expr} {te : TE} {tk : TO} {p3 pos : Pos} (he : PE X e te) (hk : PO X (some k) tk) : PE X (.Subscript e (.Slice none none (some k) p3) pos) (tStepT X.K te tk) := by
  refine ⟨fun pins s σ H Q I h => ?_⟩
  refine Subscript_ (thn (he.run pins s σ H _ I h) fun v s1 ⟨x, H1, I1, r1, q1⟩ => ?_)
  refine wpAny_Slice (thn (po_none.run pins s1 σ H1 (fun o H2 => o = none ∧ H2 = H1) I1 ⟨rfl, rfl⟩) fun vl s2 ⟨l, H2, I2, pl, el, e2⟩ => ?_)
  subst el e2
  refine thn (po_none.run pins s2 σ H2 (fun o H3 => o = none ∧ H3 = H2) I2 ⟨rfl, rfl⟩) fun vu s3 ⟨u, H3, I3, pu, eu, e3⟩ => ?_
  subst eu e3
  refine thn (hk.run pins s3 σ H3 _ I3 q1) fun vs s4 ⟨o, H4, I4, ps, q4⟩ => ?_
  obtain ⟨a, xs, ex, hx, q⟩ := q4
  subst ex
  cases r1
  have I5 : Inv X pins σ H4 { s4 with heap := s4.heap.push { cls := .type "slice", data := .fields #[vl, vu, vs] } } := I4.kept (t' := s4.toks) fun b ob q => Heap.get?_push_of_some _ q
  obtain ⟨its, r, ht, hz⟩ := I5.tuple hx
  have hlen := r.length
  cases pl
  cases pu
  rcases q with ⟨eo, q⟩ | ⟨eo, q⟩
  · subst eo
    obtain ⟨t5, rfl⟩ : ∃ t, vs = Value.int 1 t := by cases ps; exact ⟨_, rfl⟩
    show wpAny (model X.prog X.w) X.A (subscriptTail e (.Slice none none (some k) p3) (.ref a) (.ref s4.heap.objs.size)) (EP X pins σ Q) X.xe _
    refine tail_any (ops := [.ref a, .ref s4.heap.objs.size]) ht.typeIs (PyProof.Rows.slot_tuple_getitem.lookup) ?_ (by with_unfolding_all rfl)
    refine getItem_tuple_one ht (Heap.IsSliceOf.new _ .none .none _) ?_
    exact ⟨.ref a, H4, I5, rfl, q⟩
  · subst eo
    obtain ⟨t5, rfl⟩ : ∃ t, vs = Value.int (-1) t := by cases ps; exact ⟨_, rfl⟩
    show wpAny (model X.prog X.w) X.A (subscriptTail e (.Slice none none (some k) p3) (.ref a) (.ref s4.heap.objs.size)) (EP X pins σ Q) X.xe _
    refine tail_any (ops := [.ref a, .ref s4.heap.objs.size]) ht.typeIs (PyProof.Rows.slot_tuple_getitem.lookup) ?_ (by with_unfolding_all rfl)
    refine getItem_tuple_rev ht (Heap.IsSliceOf.new _ .none .none _) ?_ (by rw [List.size_toArray]; omega)
    exact lay_tup I5 (by rw [List.length_reverse]; exact hz) r.reverse q
/-- t[::k] -/
def dStep (fo fk : Sig → AH → Res DV) : Sig → AH → Res DV := fun δ S => (fo δ S).bind fun d S => (fk δ S).bind fun i S => match d, i with
  | .p (.tup xs), .p (.int 1) => .ok (.p (.tup xs)) S
  | .p (.tup xs), .p (.int (-1)) => .ok (.p (.tup xs.reverse)) S
  | _, _ => .bad
section
variable {X : Cx} {E : L2.St → XK} {a k : Expr} {p3 pos : Pos} {fa fk : Sig → AH → Res DV}
theorem de_step (ha : DE X E a fa) (hk : DE X E k fk) : DE X E (.Subscript a (.Slice none none (some k) p3) pos) (dStep fa fk) := (pe_stepT ha (po_some hk)).imp fun σ H Q ⟨as, δ, S, sr, er, w⟩ =>
  ⟨as, δ, S, sr, er, w.bind.mono fun _ _ _ _ _ _ _ _ _ ⟨as1, S1, d1, _, x1, s1, r1, w1⟩ => ⟨as1, δ, S1, s1, er.mono x1.w, w1.bind.mono fun _ _ _ _ _ _ _ _ _ ⟨as2, S2, d2, _, x2, s2, r2, w2⟩ => by
    split at w2
    · cases r2
      have r3 := r1.mono x2.w
      cases r3 with
      | tup h t => exact ⟨1, rfl, _, _, rfl, h.sq, .inl ⟨rfl, w2.pure s2 (.tup h t)⟩⟩
    · cases r2
      have r3 := r1.mono x2.w
      cases r3 with
      | tup h t => exact ⟨-1, rfl, _, _, rfl, h.sq, .inr ⟨rfl, WO.tup (ps := _) (S := S2) (fun as' H' b => w2 as' H' b) s2 (by rw [List.length_reverse]; exact h.1) t.reverse⟩⟩
    · exact w2.elim⟩⟩
end

/-! ### statements that keep a local def -/
open NdefX
/-- the slot i holds the cell of the function F -/
def Fr (i : Nat) (F : Addr → NF) (as : As) (H : Hp) (δ : Sig) : Prop := ∃ n a c', δ[i]? = some (some (.c n)) ∧ as.cells[n]? = some a ∧ H a = some (FnO a (F c')) ∧ H c' = some (LamX.CodeO c' (F c').qual)
theorem Fr.later {i : Nat} {F : Addr → NF} {as as' : As} {H H' : Hp} {δ δ' : Sig} (h : Fr i F as H δ) (x : Ext as H as' H') (k : δ'[i]? = δ[i]?) : Fr i F as' H' δ' := by
  obtain ⟨n, a, c', h1, h2, h3, h4⟩ := h
  exact ⟨n, a, c', by rw [k]; exact h1, x.get h2, x.exts a _ h3, x.exts c' _ h4⟩
def KpO (i : Nat) (δ : Sig) : Out → Prop
  | .nx δ' _ => δ'[i]? = δ[i]?
  | .bk δ' _ => δ'[i]? = δ[i]?
  | .ct δ' _ => δ'[i]? = δ[i]?
  | _ => True
/-- the slot i stays -/
def Kp (i : Nat) (f : Sig → AH → Out) : Prop := ∀ δ S, KpO i δ (f δ S)
def tSF (M : Wd) (E : L2.St → XK) (i : Nat) (F : Addr → NF) (f : Sig → AH → Out) : TS := fun D σ H => ∃ as δ S, SR M as H S ∧ ER M as H σ δ ∧ Fr i F as H δ ∧ WS M E D as H (f δ S)
abbrev DSF (X : Cx) (E : L2.St → XK) (i : Nat) (F : Addr → NF) (st : Stmt) (f : Sig → AH → Out) : Prop := PS X st (tSF (wd X) E i F f) ∧ Kp i f
abbrev DSFs (X : Cx) (E : L2.St → XK) (i : Nat) (F : Addr → NF) (st : List Stmt) (f : Sig → AH → Out) : Prop := PSs X st (tSF (wd X) E i F f) ∧ Kp i f
section
variable {X : Cx} {E : L2.St → XK} {i j : Nat} {F : Addr → NF} {st : Stmt} {rest body : List Stmt} {f g fb : Sig → AH → Out} {fe : Sig → AH → Res DV} {fc : Sig → AH → Res Bool} {fi : Sig → AH → Res Its'} {q : Pat} {c tg iter : Expr} {pos : Pos}
theorem dsf_of (h : DS X E st f) (k : Kp i f) : DSF X E i F st f := ⟨h.imp fun D σ H ⟨as, δ, S, sr, er, _, w⟩ => ⟨as, δ, S, sr, er, w⟩, k⟩
theorem kp_seq (h1 : Kp i f) (h2 : Kp i g) : Kp i (dSeq f g) := fun δ S => by
  have a := h1 δ S
  unfold dSeq
  cases e : f δ S with
  | nx δ1 S1 =>
    rw [e] at a
    have b := h2 δ1 S1
    show KpO i δ (g δ1 S1)
    cases e2 : g δ1 S1 with
    | nx δ2 S2 => rw [e2] at b; exact Eq.trans b a
    | bk δ2 S2 => rw [e2] at b; exact Eq.trans b a
    | ct δ2 S2 => rw [e2] at b; exact Eq.trans b a
    | _ => trivial
  | bk δ1 S1 => rw [e] at a; exact a
  | ct δ1 S1 => rw [e] at a; exact a
  | _ => trivial
theorem dsfs_one (h : DSF X E i F st f) : DSFs X E i F [st] f := ⟨pss_one h.1, h.2⟩
theorem dsfs_cons (h1 : DSF X E i F st f) (h2 : DSFs X E i F rest g) : DSFs X E i F (st :: rest) (dSeq f g) := ⟨(pss_cons h1.1 h2.1).imp fun D σ H ⟨as, δ, S, sr, er, fr, w⟩ => by
  refine ⟨as, δ, S, sr, er, fr, ?_⟩
  have kp := h1.2 δ S
  unfold dSeq at w
  split at w
  · rename_i δ1 S1 eq
    rw [eq] at kp ⊢
    exact fun as' H' σ' x s r => ⟨as', δ1, S1, s, r, fr.later x kp, WS.later x w⟩
  · rename_i n
    cases eq : f δ S with
    | nx δ1 S1 => exact absurd eq (n _ _)
    | rt d S1 => rw [eq] at w; exact w
    | rtT d S1 => rw [eq] at w; exact w
    | bk δ1 S1 => rw [eq] at w; exact w
    | ct δ1 S1 => rw [eq] at w; exact w
    | exc c p δ1 S1 => rw [eq] at w; exact w
    | bad => rw [eq] at w; exact w, kp_seq h1.2 h2.2⟩
theorem kp_out {α : Type} {r : Res α} {δ : Sig} {k : α → AH → Out} (h : ∀ a S, KpO i δ (k a S)) : KpO i δ (r.out δ k) := by
  cases r with
  | ok a S => exact h a S
  | exc c p S => trivial
  | bad => trivial
theorem kp_drop : Kp i (dDrop fe) := fun δ S => kp_out fun _ _ => rfl
theorem kp_ret : Kp i (dRet fe) := fun δ S => kp_out fun _ _ => trivial
theorem kp_pass : Kp i dPass := fun δ S => rfl
theorem kp_set (h : j ≠ i) : Kp i (dSet j fe) := fun δ S => kp_out fun d S => by
  show (δ.set j (some d))[i]? = δ[i]?
  rw [List.getElem?_set_ne h]
theorem kp_if (h1 : Kp i f) (h2 : Kp i g) : Kp i (dIf fc f g) := fun δ S => kp_out fun b S => by
  cases b with
  | true => exact h1 δ S
  | false => exact h2 δ S
theorem kp_whN (h : Kp i fb) : ∀ (n : Nat) (δ : Sig) (S : AH), KpO i δ (whN fc fb n δ S)
  | 0, δ, S => trivial
  | n + 1, δ, S => kp_out fun b S1 => by
    cases b with
    | false => exact rfl
    | true =>
      show KpO i δ (match fb δ S1 with
        | .nx δ2 S2 => whN fc fb n δ2 S2
        | .ct δ2 S2 => whN fc fb n δ2 S2
        | .bk δ2 S2 => .nx δ2 S2
        | o => o)
      have a := h δ S1
      have go : ∀ (δ2 : Sig) (S2 : AH), δ2[i]? = δ[i]? → KpO i δ (whN fc fb n δ2 S2) := fun δ2 S2 e => by
        have b := kp_whN h n δ2 S2
        cases e2 : whN fc fb n δ2 S2 with
        | nx δ3 S3 => rw [e2] at b; exact Eq.trans b e
        | bk δ3 S3 => rw [e2] at b; exact Eq.trans b e
        | ct δ3 S3 => rw [e2] at b; exact Eq.trans b e
        | _ => trivial
      cases e : fb δ S1 with
      | nx δ2 S2 => rw [e] at a; exact go _ _ a
      | ct δ2 S2 => rw [e] at a; exact go _ _ a
      | bk δ2 S2 => rw [e] at a; exact a
      | _ => trivial
theorem kp_while (h : Kp i fb) : Kp i (dWhile fc fb) := fun δ S => by
  by_cases e : ∃ n, whN fc fb n δ S ≠ .bad
  · obtain ⟨n, hn⟩ := e
    rw [dWhile_at hn]
    exact kp_whN h n δ S
  · rw [dWhile_bad fun n => Classical.byContradiction fun z => e ⟨n, z⟩]
    trivial
end

mutual
theorem set_keep {i : Nat} : ∀ (q : Pat) {d : DV} {δ δ' : Sig}, q.set d δ = some δ' → i ∉ q.slots → δ'[i]? = δ[i]?
  | .nm j, d, δ, δ', e, h => by
    simp only [Pat.set, Option.some.injEq] at e
    subst e
    rw [List.getElem?_set_ne fun z => h (by simp [Pat.slots, z])]
  | .tp ps, d, δ, δ', e, h => by
    unfold Pat.set at e
    split at e
    · exact sets_keep ps e h
    · exact sets_keep ps e h
    · cases e
theorem sets_keep {i : Nat} : ∀ (qs : List Pat) {ds : List DV} {δ δ' : Sig}, Pat.sets qs ds δ = some δ' → i ∉ Pat.slotss qs → δ'[i]? = δ[i]?
  | [], [], δ, δ', e, _ => by
    simp only [Pat.sets, Option.some.injEq] at e
    rw [e]
  | [], _ :: _, δ, δ', e, _ => by simp [Pat.sets] at e
  | q :: qs, [], δ, δ', e, _ => by simp [Pat.sets] at e
  | q :: qs, x :: xs, δ, δ', e, h => by
    simp only [Pat.sets, Option.bind_eq_some_iff] at e
    obtain ⟨δ1, e1, e2⟩ := e
    rw [sets_keep qs e2 fun z => h (by simp [Pat.slotss, z]), set_keep q e1 fun z => h (by simp [Pat.slotss, z])]
end
section
variable {X : Cx} {E : L2.St → XK} {l j : Nat} {F : Addr → NF} {st : Stmt} {rest body : List Stmt} {f g fb : Sig → AH → Out} {fe : Sig → AH → Res DV} {fc : Sig → AH → Res Bool} {fi : Sig → AH → Res Its'} {q : Pat} {c tg iter e : Expr} {pos : Pos}
theorem kp_forGo {ck : AH → Prop} (h : Kp l fb) (hq : l ∉ q.slots) : ∀ (xs : List DV) (δ : Sig) (S : AH), KpO l δ (forGo ck q fb xs δ S)
  | [], δ, S => by
    unfold forGo
    split
    · exact rfl
    · trivial
  | x :: xs, δ, S => by
    unfold forGo
    split
    · cases e : q.set x δ with
      | none => trivial
      | some δ1 =>
        have k1 := set_keep q e hq
        have a := h δ1 S
        have go : ∀ (δ2 : Sig) (S2 : AH), δ2[l]? = δ1[l]? → KpO l δ (forGo ck q fb xs δ2 S2) := fun δ2 S2 e2 => by
          have b := kp_forGo (ck := ck) h hq xs δ2 S2
          cases e3 : forGo ck q fb xs δ2 S2 with
          | nx δ3 S3 => rw [e3] at b; exact Eq.trans b (Eq.trans e2 k1)
          | bk δ3 S3 => rw [e3] at b; exact Eq.trans b (Eq.trans e2 k1)
          | ct δ3 S3 => rw [e3] at b; exact Eq.trans b (Eq.trans e2 k1)
          | _ => trivial
        show KpO l δ (match fb δ1 S with
          | .nx δ2 S2 => forGo ck q fb xs δ2 S2
          | .ct δ2 S2 => forGo ck q fb xs δ2 S2
          | .bk δ2 S2 => .nx δ2 S2
          | o => o)
        cases eb : fb δ1 S with
        | nx δ2 S2 => rw [eb] at a; exact go _ _ a
        | ct δ2 S2 => rw [eb] at a; exact go _ _ a
        | bk δ2 S2 => rw [eb] at a; exact Eq.trans a k1
        | _ => trivial
    · trivial
theorem kp_for (h : Kp l fb) (hq : l ∉ q.slots) : Kp l (dFor fi q fb) := fun δ S => kp_out fun x S1 => kp_forGo h hq x.1 δ S1
theorem dsf_while (g : Gd X E) (hc : DT X E c fc) (hb : DSFs X E l F body fb) : DSF X E l F (.While c body [] pos) (dWhile fc fb) :=
  ⟨(ps_while g.po hc hb.1).imp fun D σ H ⟨as, δ, S, sr, er, fr, w⟩ => by
  have ex : ∃ n, whN fc fb n δ S ≠ .bad := by
    refine Classical.byContradiction fun q => ?_
    rw [dWhile_bad fun n => Classical.byContradiction fun z => q ⟨n, z⟩] at w
    exact w
  obtain ⟨n, hn⟩ := ex
  rw [dWhile_at hn] at w
  refine ⟨fun m σ H => ∃ as δ S, SR (wd X) as H S ∧ ER (wd X) as H σ δ ∧ Fr l F as H δ ∧ WS (wd X) E D as H (whN fc fb m δ S), ⟨n, as, δ, S, sr, er, fr, w⟩, ?_⟩
  rintro m σ H ⟨as, δ, S, sr, er, fr, w⟩
  cases m with
  | zero => exact w.elim
  | succ m =>
    unfold whN at w
    refine ⟨as, δ, S, sr, er, (w.bind er).mono fun _ _ _ H1 k _ _ _ _ ⟨as1, S1, d1, _, x1, s1, r1, w1⟩ => ?_⟩
    cases r1
    cases k with
    | false => exact w1.here s1 (er.mono x1.w)
    | true =>
      rw [if_pos rfl] at w1 ⊢
      have fr1 := fr.later x1 rfl
      refine ⟨fun σ H => ∃ as δ S, SR (wd X) as H S ∧ ER (wd X) as H σ δ ∧ Fr l F as H δ ∧ WS (wd X) E D as H (whN fc fb m δ S), fun σ' H' h => ⟨m, Nat.lt_succ_self m, h⟩, as1, δ, S1, s1, er.mono x1.w, fr1, ?_⟩
      have kp := hb.2 δ S1
      cases eb : fb δ S1 with
      | nx δ4 S4 =>
        rw [eb] at w1 kp
        exact fun as' H' σ' x s r => ⟨as', δ4, S4, s, r, fr1.later x kp, WS.later x w1⟩
      | ct δ4 S4 =>
        rw [eb] at w1 kp
        exact fun as' H' σ' x s r => ⟨as', δ4, S4, s, r, fr1.later x kp, WS.later x w1⟩
      | bk δ4 S4 =>
        rw [eb] at w1
        exact fun as' H' σ' x s r => w1 as' H' σ' x s r
      | rt d S4 =>
        rw [eb] at w1
        exact fun as' H' v x s r => w1 as' H' v x s r
      | rtT d S4 =>
        rw [eb] at w1
        exact fun as' H' v x s r => w1 as' H' v x s r
      | exc c p δ4 S4 =>
        rw [eb] at w1
        exact fun as' H' σ' cls dd x s r => w1 as' H' σ' cls dd x s r
      | bad => rw [eb] at w1; exact w1.elim, kp_while hb.2⟩
theorem dsf_for (g : Gd X E) (hi : DI X E tg iter fi) (hg : DG X tg q) (hb : DSFs X E l F body fb) (hq : l ∉ q.slots := by decide) (hs : ∀ x, foldedSetIterable iter X.env x = pure x := by intro _; rfl) : DSF X E l F (.For tg iter body [] pos) (dFor fi q fb) :=
  ⟨(ps_for g.po g.calm hi hg hb.1 hs).imp fun D σ H ⟨as, δ, S, sr, er, fr, w⟩ =>
  ⟨as, δ, S, sr, er, (w.bind er).mono fun _ _ _ H1 J _ _ _ _ ⟨as1, S1, x, _, e1, s1, y1, w1⟩ => by
    obtain ⟨xs, ck⟩ := x
    dsimp only at y1 w1
    refine ⟨fun i m σ H => m = xs.length - i ∧ i ≤ xs.length ∧ ∃ as' δ' S', Ext as1 H1 as' H ∧ SR (wd X) as' H S' ∧ ER (wd X) as' H σ δ' ∧ Fr l F as' H δ' ∧ WS (wd X) E D as' H (forGo ck q fb (xs.drop i) δ' S'), ⟨xs.length, rfl, Nat.zero_le _, as1, δ, S1, Ext.refl _ _, s1, er.mono e1.w, fr.later e1 rfl, w1⟩, ?_⟩
    rintro i m σ H ⟨rfl, hi, as2, δ2, S2, e2, s2, er2, fr2, w2⟩
    by_cases hlt : i < xs.length
    · have hx : xs[i]? = some xs[i] := List.getElem?_eq_getElem hlt
      have hd : xs.drop i = xs[i] :: xs.drop (i + 1) := List.drop_eq_getElem_cons hlt
      rw [hd] at w2
      unfold forGo at w2
      have hck : ck S2 := by
        refine Classical.byContradiction fun n => ?_
        rw [if_neg n] at w2
        exact w2
      rw [if_pos hck] at w2
      refine .inr ⟨y1.go _ _ _ e2.w s2 hck i hlt, fun σ H => i + 1 ≤ xs.length ∧ ∃ as' δ' S', Ext as1 H1 as' H ∧ SR (wd X) as' H S' ∧ ER (wd X) as' H σ δ' ∧ Fr l F as' H δ' ∧ WS (wd X) E D as' H (forGo ck q fb (xs.drop (i + 1)) δ' S'), fun σ' H' n => ⟨xs.length - (i + 1), by omega, rfl, n.1, n.2⟩, fun v H' yv => ?_⟩
      obtain ⟨e3, s3, r3⟩ := y1.yld _ _ _ e2.w s2 hck i _ v H' hx yv
      cases eq : q.set xs[i] δ2 with
      | none => rw [eq] at w2; exact w2.elim
      | some δ3 =>
        rw [eq] at w2
        dsimp only at w2
        have fr3 := fr2.later e3 (set_keep q eq hq)
        refine tPat_ok (M := wd X) q (er2.mono e3.w) r3 eq fun σ3 er3 _ => ⟨as2, δ3, S2, s3, er3, fr3, ?_⟩
        have kp := hb.2 δ3 S2
        cases eb : fb δ3 S2 with
        | nx δ4 S4 =>
          rw [eb] at w2 kp
          exact fun as' H' σ' x s r => ⟨hlt, as', δ4, S4, (e2.trans e3).trans x, s, r, fr3.later x kp, WS.later (e3.trans x) w2⟩
        | ct δ4 S4 =>
          rw [eb] at w2 kp
          exact fun as' H' σ' x s r => ⟨hlt, as', δ4, S4, (e2.trans e3).trans x, s, r, fr3.later x kp, WS.later (e3.trans x) w2⟩
        | bk δ4 S4 =>
          rw [eb] at w2
          exact fun as' H' σ' x s r => w2 as' H' σ' (e3.trans x) s r
        | rt d S4 =>
          rw [eb] at w2
          exact fun as' H' v x s r => w2 as' H' v (e3.trans x) s r
        | rtT d S4 =>
          rw [eb] at w2
          exact fun as' H' v x s r => w2 as' H' v (e3.trans x) s r
        | exc c p δ4 S4 =>
          rw [eb] at w2
          exact fun as' H' σ' cls dd x s r => w2 as' H' σ' cls dd (e3.trans x) s r
        | bad => rw [eb] at w2; exact w2.elim
    · have hi' : i = xs.length := by omega
      subst hi'
      rw [List.drop_length] at w2
      unfold forGo at w2
      have hck : ck S2 := by
        refine Classical.byContradiction fun n => ?_
        rw [if_neg n] at w2
        exact w2
      rw [if_pos hck] at w2
      exact .inl ⟨y1.stop _ _ _ e2.w s2 hck, w2.here s2 er2⟩⟩, kp_for hb.2 hq⟩
/-! ### calls of a local def -/
def tDF (M : Wd) (E : L2.St → XK) (l : Nat) (F : Addr → NF) (f : Sig → AH → Res DV) : TE := fun σ H Q => ∃ as δ S, SR M as H S ∧ ER M as H σ δ ∧ Fr l F as H δ ∧ WR M (E σ) (DVR M) as H (f δ S) Q
theorem dsf_expr (he : PE X e (tDF (wd X) E l F fe)) (hs : swapsWith e none pos.line X.env = pure false := by rfl) : DSF X E l F (.Expr e pos) (dDrop fe) := ⟨(ps_expr he hs).imp fun D σ H ⟨as, δ, S, sr, er, fr, w⟩ =>
  ⟨as, δ, S, sr, er, fr, (w.bind er).mono fun _ _ _ _ _ _ _ _ _ ⟨as1, S1, d1, _, x1, s1, r1, w1⟩ => w1.here s1 (er.mono x1.w)⟩, kp_drop⟩
end
/-- what a slot holds -/
def slotD (δ : Sig) (j : Nat) : Option DV := match δ[j]? with
  | some o => o
  | none => none
def CRs (M : Wd) (as : As) (H : Hp) : List (Option V) → List (Option DV) → Prop := Paired fun (w : Option V) (c : Option DV) => ∀ d, c = some d → ∃ v, w = some v ∧ DVR M as H v d
def spN (M : Wd) (d : List DV → List (Option DV) → AH → Res DV) : Addr → List (Option V) → Sp := fun _ ws vs H Q E => ∃ as ds cs S, SR M as H S ∧ DVRs M as H vs ds ∧ CRs M as H ws cs ∧ WR M E (DVR M) as H (d ds cs S) Q
def dCallN (js : List Nat) (d : List DV → List (Option DV) → AH → Res DV) (fs : Sig → AH → Res (List DV)) : Sig → AH → Res DV := fun δ S => (fs δ S).bind fun ds S => d ds (js.map (slotD δ)) S
theorem crs_slots {M : Wd} {as : As} {H : Hp} {σ : L2.St} {δ : Sig} (er : ER M as H σ δ) : ∀ js : List Nat, CRs M as H (js.map (slotAt σ)) (js.map (slotD δ))
  | [] => .nil
  | j :: js => .cons (fun d e => by
    unfold slotD at e
    cases e2 : δ[j]? with
    | none => rw [e2] at e; cases e
    | some o =>
      rw [e2] at e
      have e : o = some d := e
      subst e
      obtain ⟨v, h1, h2⟩ := er.get j d e2
      exact ⟨v, slotAt_of h1, h2⟩) (crs_slots er js)
section
variable {X : Cx} {E0 : XK} {l k m : Nat} {F : Addr → NF} {x : Str} {ps fr : List Str} {js : List Nat} {d : List DV → List (Option DV) → AH → Res DV} {fs : Sig → AH → Res (List DV)} {e : Expr} {es : List Expr} {p pos : Pos}
theorem pe_callN {cl : List (Str × Addr)} (g : Gd X (fun _ => E0)) (Fn : ∀ f c', NOk X.prog X.w X.K X.mg X.base (L2.CX X.prog X.w) k f (F c') ps fr (spN (wd X) d f)) (hcl : ∀ c', (F c').cl = cl) (hc : ∀ c', (F c').c = c') (cp : X.Ok → Caps X cl fr js) (hr : Room m X.A) (hk : k ≤ m) (hN : X.N[l]? = some x) (hv : Vis X.env.scope x) (ha : DA X (fun _ => E0) (e :: es) fs)
    (hd : (x == ("__debug__" : Str)) = false := by decide) (hcd : (x == ("__classdict__" : Str)) = false := by decide)
    (he : starEach (e :: es) X.env = (false, eval e X.env) :: starEach es X.env := by rfl) (hpl : (backTo pos (starEach es X.env)).any (·.1) = false := by rfl) :
    PE X (.Call (.Name x p) (e :: es) [] pos) (tDF (wd X) (fun _ => E0) l F (dCallN js d fs)) :=
  (pe_calln (E := E0) (sp := fun f _ => spN (wd X) d f) Fn hcl cp hr hk (fun pins σ H s e s' I c => g.pass σ pins H s e s' I c) hN hv ha hd hcd he hpl).imp fun σ H Q ⟨as, δ, S, sr, er, fr, w⟩ => by
    obtain ⟨n, a, c', h1, h2, h3, h4⟩ := id fr
    obtain ⟨v, hv1, a2, ha2, rfl⟩ := er.get l _ h1
    rw [h2] at ha2
    cases ha2
    refine ⟨a, c', hv1, h3, as, δ, S, sr, er, w.bind.mono fun _ _ _ _ _ _ _ _ _ ⟨as1, S1, ds, _, x1, s1, r1, w1⟩ => ⟨x1.exts a _ h3, by rw [hc]; exact x1.exts c' _ h4, as1, ds, _, S1, s1, r1, crs_slots (er.mono x1.w) js, w1⟩⟩
end
/-! ### the body of a local def -/
noncomputable def dLoc (nN n m : Nat) (keep : Bool) (body : Sig → AH → Out) : List DV → List (Option DV) → AH → Res DV := fun ds cs S => if ds.length = n ∧ cs.length = m then gcK S keep (body (ds.map some ++ (cs ++ List.replicate (nN - n - m) none)) S) else .bad
theorem er_startF {M : Wd} {as : As} {H : Hp} {N : List Str} {vs : List V} {ds : List DV} {ws : List (Option V)} {cs : List (Option DV)} (r : DVRs M as H vs ds) (q : CRs M as H ws cs) {n m : Nat} (hn : ds.length = n) (hm : cs.length = m) : ER M as H (startF N vs ws) (ds.map some ++ (cs ++ List.replicate (N.length - n - m) none)) := by
  have hl : vs.length = ds.length := Paired.length r
  have hw : ws.length = cs.length := Paired.length q
  unfold startF
  refine ⟨by simp [hl, hw, hn, hm], fun i d e => ?_⟩
  by_cases hi : i < ds.length
  · rw [List.getElem?_append_left (by simpa using hi), List.getElem?_map] at e
    have hi' : i < vs.length := by omega
    rw [List.getElem?_append_left (by simpa using hi'), List.getElem?_map]
    rw [List.getElem?_eq_getElem hi] at e
    rw [List.getElem?_eq_getElem hi']
    have go : ∀ {vs : List V} {ds : List DV}, DVRs M as H vs ds → ∀ (i : Nat) (h1 : i < vs.length) (h2 : i < ds.length), DVR M as H vs[i] ds[i] := by
      intro vs ds r
      induction r with
      | nil => intro i h1; exact absurd h1 (by simp)
      | cons h t ih =>
        intro i h1 h2
        cases i with
        | zero => exact h
        | succ i => exact ih i (by simpa using h1) (by simpa using h2)
    have e' : ds[i] = d := by simpa using e
    exact ⟨vs[i], rfl, by rw [← e']; exact go r i hi' hi⟩
  · have hi2 : ¬ i < vs.length := by omega
    rw [List.getElem?_append_right (by simpa using hi), List.length_map] at e
    rw [List.getElem?_append_right (by simpa using hi2), List.length_map, hl]
    by_cases hj : i - ds.length < cs.length
    · rw [List.getElem?_append_left hj] at e
      rw [List.getElem?_append_left (by omega)]
      have go : ∀ {ws : List (Option V)} {cs : List (Option DV)}, CRs M as H ws cs → ∀ (j : Nat) (d : DV), cs[j]? = some (some d) → ∃ v, ws[j]? = some (some v) ∧ DVR M as H v d := by
        intro ws cs q
        induction q with
        | nil => intro j d h1; simp at h1
        | cons h t ih =>
          intro j d h1
          cases j with
          | zero =>
            obtain ⟨v, e1, e2⟩ := h d (by simpa using h1)
            exact ⟨v, by simpa using e1, e2⟩
          | succ j => simpa using ih j d (by simpa using h1)
      exact go q _ d e
    · rw [List.getElem?_append_right (by omega), List.getElem?_replicate] at e
      split at e <;> cases e
section
variable {P : Program} {w : World} {K : PySem.W.Frag} {mg : Str → Option Value} {base : Heap}
/-- a local def by its body -/
theorem loc_ok {F : NF} {f : Addr} {N ps fr : List Str} {k n m nN : Nat} {keep : Bool} {body : Sig → AH → Out} (S : NScope N ps fr F.scope) (hb : ∀ (doc pm ctv : Value) (us : List Value), us.length = ps.length → bindArgs (F.fd doc pm ctv) ⟨us, []⟩ = pure (ps.zip us)) (hn : n = ps.length) (hm : m = fr.length) (hN : nN = N.length)
    (hbody : ∀ (A : Around) (outer : List Env) (s : Shared) (H : Hp) (E : XK), Room k (A.deeper (envF F f s.heap.objs.size)) → Gd (ncx (L2.CX P w) P w K mg base N F f A outer s H E) (fun _ => E) → DSs (ncx (L2.CX P w) P w K mg base N F f A outer s H E) (fun _ => E) F.body body) :
    NOk P w K mg base (L2.CX P w) (k + 1) f F ps fr (spN ⟨K, mg⟩ (dLoc nN n m keep body) f) := by
  subst hn hm hN
  refine nok_of S hb (fun ws vs H Q E h => ?_) fun A outer s H vs ws Q E hr hf hc hw h => ?_
  · obtain ⟨as, ds, cs, S, sr, r, q, w⟩ := h
    unfold dLoc at w
    split at w
    · rename_i e
      rw [← e.1]
      exact Paired.length r
    · exact w.elim
  · refine ⟨_, hbody A outer s H E hr ⟨rfl, takes_of rfl rfl rfl rfl, passes_of rfl⟩, ?_⟩
    obtain ⟨as, ds, cs, S, sr, r, q, w⟩ := h
    unfold dLoc at w
    split at w
    · rename_i e
      exact ⟨as, _, S, sr, er_startF r q e.1 e.2, gc_ok sr w⟩
    · exact w.elim
end
end DL
/-! D27: the def statement within a def; a def whose code object is known; the end with the table of one def. -/
namespace DL
open PySem PySem.Spec PyProof.Rows L2 NdefX LamX
/-! ### the statement -/
section
variable {X : Cx} {pins : List (Addr × Obj)} {σ : L2.St} {H : Hp} {s : Shared}
theorem ndef_makeP {q : Str} {c P : Addr} {name : Str} {params : Arguments} {body : List Stmt} {scope : Scope} {pos : Pos} {E : Value → Shared → Prop} {Q : Value → Shared → Prop} (I : Inv X pins σ H s) (TB : TabB X.base X.mg c P) (hcode : X.env.code = .ref c)
    (hn : q = X.env.qual ++ name) (hT : TabN H P (fun _ _ => q)) (hfree : ∀ y ∈ scope.names, y.2 = .free → ∃ c, X.env.cells.lookup y.1 = some c)
    (h : ∀ (f c' : Addr) (H1 : Hp) (s' : Shared), Inv X pins σ H1 s' → (∀ b o, b ≠ P → H b = some o → H1 b = some o) → TabN H1 P (fun _ _ => q) → H f = none → H1 f = some (FnO f ⟨name, X.env.qual ++ name, params, body, scope, cloFrom X.env.cells scope.names [], c'⟩) → H1 c' = some (CodeO c' (X.env.qual ++ name)) → Q (.ref f) s') :
    wpAny (model X.prog X.w) X.A (makeFunction name (X.env.qual ++ name) params (.stmts body) scope X.env [] [] [] pos pos.line) Q E s := by
  obtain ⟨ps, hP, ht, ha⟩ := id hT
  have bP : s.heap.BuiltinsAt X.mg P := TB.bm.keeps I.bk
  have hP' : s.heap.get? P = some { cls := .none, data := .fields ps } := I.hok P _ hP
  cases hc : codeAmong pos ps.toList with
  | none =>
    refine PySem.W.makeFunction_K (mg := X.mg) (c := c) (P := P) (ps := ps) (closure_ok hfree) I.ok.glob (I.mod.glob.keeps I.bk) hcode (TB.code.keeps I.bk) hP' ht hc TB.gP bP fun c' ctv doc h' tk hx hge hlt hrec htb => ?_
    obtain ⟨c2, oc, vs, t, e2, hoc, hd, hv⟩ := hrec
    cases e2
    have nC : H c' = none := I.hok.fresh hge
    have I1 := inv_table (t' := tk) (more := #[rawInt pos.line, rawInt pos.col, .ref c']) (h' := h') I hP (fun b o hb e => hx b o hb e) htb hge ⟨oc, vs, t, hoc, hd, hv⟩
    have hE : ∀ b o, b ≠ P → H b = some o → (upd (upd H P (.tbl (ps ++ #[rawInt pos.line, rawInt pos.col, .ref c']))) c' (CodeO c' (X.env.qual ++ name))) b = some o := fun b o n e => by
      rw [upd_ne (ne_of_none e nC), upd_ne n]
      exact e
    have eL : (ps ++ #[rawInt pos.line, rawInt pos.col, .ref c']).toList = ps.toList ++ [rawInt pos.line, rawInt pos.col, .ref c'] := by simp
    have T1 : TabN (upd (upd H P (.tbl (ps ++ #[rawInt pos.line, rawInt pos.col, .ref c']))) c' (CodeO c' (X.env.qual ++ name))) P (fun _ _ => q) := by
      refine ⟨_, by rw [upd_ne (ne_of_none hP nC), upd_same], by rw [eL]; exact PySem.TriplesOk_snoc _ _ _ _ ht, fun p' cv hcv => ?_⟩
      rw [eL] at hcv
      rcases among_app2 _ ht hcv with z | ⟨z, z1, z2⟩
      · obtain ⟨c0, e1, e2⟩ := ha p' cv z
        refine ⟨c0, e1, hE _ _ (fun z => ?_) e2⟩
        rw [z, hP] at e2
        exact codeO_ne _ (Option.some.inj e2).symm
      · refine ⟨c', z, ?_⟩
        rw [hn]
        exact upd_same
    have nF := I1.hok.fresh (Nat.le_refl _)
    have I2 := inv_fn (F := ⟨name, X.env.qual ++ name, params, body, scope, cloFrom X.env.cells scope.names [], c'⟩) (t' := tk) (doc := doc) (pm := (X.mg "__name__").getD .none) (ctv := ctv) I1 rfl
    refine h h'.objs.size c' _ _ I2 (fun b o n e => ?_) (T1.ext fun b o e => ?_) (I.hok.fresh (Nat.le_trans hge (Nat.le_of_lt hlt))) upd_same ?_
    · have e1 := hE b o n e
      exact (upd_ne (ne_of_none e1 nF)).trans e1
    · exact (upd_ne (ne_of_none e nF)).trans e
    · exact (upd_ne (Nat.ne_of_lt hlt)).trans upd_same
  | some cv =>
    obtain ⟨c', e, hco⟩ := ha pos cv hc
    subst e
    rw [hn] at hco
    refine PySem.W.makeFunction_hit (mg := X.mg) (c := c) (P := P) (ps := ps) (closure_ok hfree) I.ok.glob (I.mod.glob.keeps I.bk) hcode (TB.code.keeps I.bk) hP' ht hc bP fun ctv doc h' tk hx hsz => ?_
    have I1 : Inv X pins σ H { s with heap := h', toks := tk } := I.kept hx
    have nF : H h'.objs.size = none := I1.hok.fresh (Nat.le_refl _)
    have I2 := inv_fn (F := ⟨name, X.env.qual ++ name, params, body, scope, cloFrom X.env.cells scope.names [], c'⟩) (t' := tk) (doc := doc) (pm := (X.mg "__name__").getD .none) (ctv := ctv) I1 rfl
    refine h h'.objs.size c' _ _ I2 (fun b o n e => ?_) (hT.ext fun b o e => ?_) nF upd_same ?_
    · exact (upd_ne (ne_of_none e nF)).trans e
    · exact (upd_ne (ne_of_none e nF)).trans e
    · exact (upd_ne (ne_of_none hco nF)).trans hco
end
def tNdefP (P : Addr) (q : Str) (i : Nat) (mk : Addr → NF) : TS := fun D σ H => TabN H P (fun _ _ => q) ∧ ∀ (f c' : Addr) (H1 : Hp), (∀ b o, b ≠ P → H b = some o → H1 b = some o) → TabN H1 P (fun _ _ => q) → H f = none → H1 f = some (FnO f (mk c')) → H1 c' = some (CodeO c' (mk c').qual) → D.nx (σ.set i (some (.ref f))) H1
theorem ps_ndefP {X : Cx} {q : Str} {c P : Addr} {name : Str} {params : Arguments} {body : List Stmt} {scope : Scope} {pos : Pos} {i : Nat} (TB : TabB X.base X.mg c P) (hcode : X.env.code = .ref c) (hn : q = X.env.qual ++ name)
    (hfree : ∀ y ∈ scope.names, y.2 = .free → X.env.scope.names.lookup y.1 = some .cell ∨ X.env.scope.names.lookup y.1 = some .free) (hd0 : params.defaults = []) (hk0 : params.kw_defaults = []) (ha : annTrees params none X.env = [])
    (hN : X.N.Nodup) (hi : X.N[i]? = some name) (hx : Loc X.env.scope name) (hf : X.fn name = true ∨ X.env.scope.names.lookup name = some .local) :
    PS X (.FunctionDef name params body [] none [] scope none name pos) (tNdefP P q i fun c' => ⟨name, X.env.qual ++ name, params, body, scope, cloFrom X.env.cells scope.names [], c'⟩) := by
  refine ⟨fun pins s σ H D I h => ?_⟩
  obtain ⟨hT, h⟩ := h
  have hq : qualnameIn X.env name name = X.env.qual ++ name := by
    have hk : X.env.kindOf name = some .local ∨ X.env.kindOf name = some .cell := hx
    unfold qualnameIn
    rcases hk with k | k <;> rw [k] <;> first | rfl | exact if_neg (by decide)
  refine PySem.W.nestDef_K hd0 hk0 ha ?_
  rw [hq]
  have hfr : ∀ y ∈ scope.names, y.2 = .free → ∃ c, X.env.cells.lookup y.1 = some c := fun y hy e => (hfree y hy e).elim (fun z => I.ok.has _ (.inl z)) fun z => I.ok.has _ (.inr z)
  refine ndef_makeP I TB hcode hn hT hfr fun f c' H1 s' I1 eN T1 f0 f1 c1 => ?_
  exact store_ok I1 hN hi hx (v := .ref f) rfl (fun s'' J => ⟨_, H1, J, h f c' H1 eN T1 f0 f1 c1⟩) hf
theorem ps_ndefPS {X : Cx} {st : Stmt} {q : Str} {c P : Addr} {name : Str} {pos : Pos} {i : Nat} (hst : st = .FunctionDef name (C8.fnArgs st) (C8.fnBody st) [] none [] (C8.fnScope st) none name pos) (TB : TabB X.base X.mg c P) (hcode : X.env.code = .ref c) (hn : q = X.env.qual ++ name)
    (hfree : ∀ y ∈ (C8.fnScope st).names, y.2 = .free → X.env.scope.names.lookup y.1 = some .cell ∨ X.env.scope.names.lookup y.1 = some .free) (hd0 : (C8.fnArgs st).defaults = []) (hk0 : (C8.fnArgs st).kw_defaults = []) (ha : annTrees (C8.fnArgs st) none X.env = [])
    (hN : X.N.Nodup) (hi : X.N[i]? = some name) (hx : Loc X.env.scope name) (hf : X.fn name = true ∨ X.env.scope.names.lookup name = some .local) :
    PS X st (tNdefP P q i (NF.of st name (X.env.qual ++ name) (cloFrom X.env.cells (C8.fnScope st).names []))) := by
  have z := ps_ndefP (X := X) (body := C8.fnBody st) (pos := pos) TB hcode hn hfree hd0 hk0 ha hN hi hx hf
  rw [← hst] at z
  exact z
/-- the table is the one of the def x -/
theorem tabK_uniq {M : Wd} {x : Str} {a f c P : Addr} {o : Obj} {fd : FuncData} (h : TabK M x a) (h1 : M.mg x = some (.ref f)) (h2 : M.K.lookup f = some o) (h3 : o.data = .func fd) (h4 : fd.code = .ref c) (h5 : PySem.W.codeHdIn M.K c P = true) : a = P := by
  obtain ⟨f', c', o', fd', k1, k2, k3, k4, k5⟩ := h
  rw [h1] at k1
  cases k1
  rw [h2] at k2
  cases k2
  rw [h3] at k3
  cases k3
  rw [h4] at k4
  cases k4
  unfold PySem.W.codeHdIn at h5 k5
  split at k5
  · rename_i vs _ hk
    rw [hk] at h5
    simp only [Bool.and_eq_true] at k5 h5
    obtain ⟨⟨⟨⟨⟨e1, _⟩, _⟩, _⟩, _⟩, _⟩ := k5
    obtain ⟨⟨⟨⟨⟨e2, _⟩, _⟩, _⟩, _⟩, _⟩ := h5
    cases hv : (vs[11]? : Option Value) with
    | none => rw [hv] at e1; cases e1
    | some v =>
      rw [hv] at e1 e2
      cases v with
      | ref b => exact (beq_iff_eq.mp e1).symm.trans (beq_iff_eq.mp e2)
      | _ => cases e1
  · cases k5
/-- the def statement, then the rest: the table is cell 0 -/
def dNdef (x : Str) (l : Nat) (g : Sig → AH → Out) : Sig → AH → Out := fun δ S => match (S[0]? : Option Cell) with
  | some (Cell.tab y) => if y = x ∧ l < δ.length then g (δ.set l (some (.c S.length))) (S ++ [.fn]) else .bad
  | _ => .bad
theorem dss_ndef {X : Cx} {E : L2.St → XK} {st : Stmt} {rest : List Stmt} {x : Str} {f c P : Addr} {o : Obj} {fd : FuncData} {l : Nat} {F : Addr → NF} {g : Sig → AH → Out} (hs : PS X st (tNdefP P (x ++ ".<locals>.visit") l F)) (hr : DSFs X E l F rest g)
    (h1 : X.mg x = some (.ref f)) (h2 : X.K.lookup f = some o) (h3 : o.data = .func fd) (h4 : fd.code = .ref c) (h5 : PySem.W.codeHdIn X.K c P = true) : DSs X E (st :: rest) (dNdef x l g) :=
  (pss_cons hs hr.1).imp fun D σ H ⟨as, δ, S, sr, er, w⟩ => by
    unfold dNdef at w
    split at w
    · rename_i y e0
      split at w
      · rename_i hy
        obtain ⟨rfl, hl⟩ := hy
        have hlen : 0 < as.cells.length := by rw [sr.len]; exact (List.getElem?_eq_some_iff.mp e0).1
        have ea : as.cells[0]? = some as.cells[0] := List.getElem?_eq_getElem hlen
        obtain ⟨tk, tn⟩ := sr.cell 0 _ _ ea e0
        have eP := tabK_uniq tk h1 h2 h3 h4 h5
        rw [eP] at ea tn
        refine ⟨tn, fun f c' H1 keep T1 f0 f1 c1 => ?_⟩
        have inP : P ∈ as.cells := List.mem_of_getElem? ea
        obtain ⟨ps, hP, _⟩ := id tn
        have x : Ext as H (as.add f) H1 := by
          refine ⟨⟨[f], rfl⟩, rfl, fun b o e q => ⟨keep b o (fun z => q.1 (by rw [z]; exact inP)) e, fun m => ?_, q.2⟩, fun b o hb e => keep b o (fun z => sr.apart P inP (by rw [← z]; exact hb)) e, fun b g e => keep b _ (fun z => by
            rw [z, hP] at e
            cases e) e⟩
          rcases List.mem_append.mp m with m | m
          · exact q.1 m
          · have : b = f := by simpa using m
            subst this
            rw [f0] at e
            cases e
        have nf : f ∉ as.cells := fun m => by
          obtain ⟨o, e⟩ := sr.mem_some m
          rw [f0] at e
          cases e
        have s1 : SR (wd X) (as.add f) H1 (S ++ [.fn]) := by
          refine ⟨by unfold As.add; rw [List.length_append, List.length_append, sr.len]; rfl, List.nodup_append.mpr ⟨sr.nd, by simp, fun a ha b hb e => ?_⟩, fun a ha => ?_, fun a ha => ?_, fun i a cl e1 e2 => ?_⟩
          · have : b = f := by simpa using hb
            subst this
            subst e
            exact nf ha
          · rcases List.mem_append.mp ha with m | m
            · exact sr.apart a m
            · have : a = f := by simpa using m
              subst this
              intro hh
              obtain ⟨o, e⟩ := sr.hidd a hh
              rw [f0] at e
              cases e
          · obtain ⟨u, e⟩ := sr.hidd a ha
            exact ⟨u, x.hkeep a u ha e⟩
          · have e1 : (as.cells ++ [f])[i]? = some a := e1
            by_cases hi : i < as.cells.length
            · rw [List.getElem?_append_left hi] at e1
              rw [List.getElem?_append_left (by rw [← sr.len]; exact hi)] at e2
              by_cases hp : a = P
              · subst hp
                have i0 : i = 0 := by
                  have h6 : (0 : Nat) < as.cells.length := hlen
                  rw [List.getElem?_eq_getElem hi] at e1
                  rw [List.getElem?_eq_getElem h6] at ea
                  exact (List.getElem_inj sr.nd).mp (by rw [Option.some.inj e1, Option.some.inj ea])
                subst i0
                rw [e0] at e2
                cases e2
                exact ⟨by rw [← eP]; exact tk, T1⟩
              · obtain ⟨o, eo⟩ := sr.mem_some (List.mem_of_getElem? e1)
                exact (sr.cell i a cl e1 e2).mono x (by rw [keep a o hp eo, eo])
            · have hl2 : i < (as.cells ++ [f]).length := (List.getElem?_eq_some_iff.mp e1).1
              rw [List.length_append, List.length_singleton] at hl2
              have hi' : i = as.cells.length := by omega
              subst hi'
              rw [List.getElem?_append_right (Nat.le_refl _), Nat.sub_self] at e1
              rw [sr.len, List.getElem?_append_right (Nat.le_refl _), Nat.sub_self] at e2
              have e1' : f = a := by simpa using e1
              have e2' : Cell.fn = cl := by simpa using e2
              subst e1'
              subst e2'
              exact ⟨_, f1⟩
        have gf : (as.add f).cells[S.length]? = some f := by
          show (as.cells ++ [f])[S.length]? = some f
          rw [← sr.len, List.getElem?_append_right (Nat.le_refl _), Nat.sub_self]
          rfl
        exact ⟨as.add f, _, _, s1, (er.mono x.w).set (d := .c S.length) ⟨f, gf, rfl⟩ l, ⟨S.length, f, c', by rw [List.getElem?_set_self hl], gf, f1, c1⟩, WS.later x w⟩
      · exact w.elim
    · exact w.elim
/-! ### a def whose code object is known -/
structure FunC (K : PySem.W.Frag) (x qual : Str) (st : Stmt) (f : Addr) (fd : FuncData) (c : Addr) : Prop where
  ex : ∃ (oc : Value) (od : Option Addr) (kV doc pm : Value) (an : Option Addr) (ct : Value) (osl : Array (Option Value)),
    fd = PySem.W.fnOf x qual (defArgs st) (defBody st) (defScope st) .none kV doc pm an (.ref c) ct ∧ K.lookup f = some ⟨oc, od, .func fd, osl⟩ ∧ PySem.W.codeIn K (.ref c) qual = true
theorem funC_mk {K : PySem.W.Frag} {x qual : Str} {st : Stmt} {f c : Addr} {oc : Value} {od an : Option Addr} {osl : Array (Option Value)} {kV doc pm ct : Value} (l : K.lookup f = some ⟨oc, od, .func (PySem.W.fnOf x qual (defArgs st) (defBody st) (defScope st) .none kV doc pm an (.ref c) ct), osl⟩)
    (cd : PySem.W.codeIn K (.ref c) qual = true) : FunC K x qual st f (PySem.W.fnOf x qual (defArgs st) (defBody st) (defScope st) .none kV doc pm an (.ref c) ct) c := ⟨⟨oc, od, kV, doc, pm, an, ct, osl, rfl, l, cd⟩⟩
theorem FunC.look {K : PySem.W.Frag} {x qual : Str} {st : Stmt} {f : Addr} {fd : FuncData} {c : Addr} (F : FunC K x qual st f fd c) : ∃ o, K.lookup f = some o ∧ o.data = .func fd ∧ fd.code = .ref c := by
  obtain ⟨oc, od, kV, doc, pm, an, ct, osl, rfl, lk, hcd⟩ := F.ex
  exact ⟨_, lk, rfl, rfl⟩
section
variable {P : Program} {w : World} {K : PySem.W.Frag} {mg : Str → Option Value} {base : Heap}
theorem def_okC {x qual : Str} {st : Stmt} {f c : Addr} {fd : FuncData} {N ps : List Str} {k : Nat} {n : Nat} {keep : Bool} {body : Sig → AH → Out} {nN : Nat} (F : FunC K x qual st f fd c) (S : FnScope N ps (defScope st)) (hn : n = ps.length) (hN : nN = N.length)
    (hbody : ∀ (A : Around) (outer : List Env) (s : Shared) (H : Hp) (E : XK), Room k (A.deeper (envOfC qual (defScope st) s.heap.objs.size f (.ref c))) →
      Gd (cxOf (L2.CX P w) P w K mg base N qual (defScope st) f (.ref c) A outer s H E) (fun _ => E) →
      DSs (cxOf (L2.CX P w) P w K mg base N qual (defScope st) f (.ref c) A outer s H E) (fun _ => E) (defBody st) body) : FnOk P w K mg base (L2.CX P w) (k + 1) f fd ps (spD ⟨K, mg⟩ (dDef nN n keep body)) := by
  subst hn hN
  obtain ⟨oc, od, kV, doc, pm, an, ct, osl, rfl, lk, hcd⟩ := F.ex
  refine fn_of lk hcd S (fun vs H Q E h => ?_) fun A outer s H vs Q E hr h => ?_
  · obtain ⟨as, ds, S, sr, r, w⟩ := h
    unfold dDef at w
    split at w
    · rename_i e
      rw [← e]
      exact Paired.length r
    · exact w.elim
  · refine ⟨_, hbody A outer s H E hr ⟨rfl, takes_of rfl rfl rfl rfl, passes_of rfl⟩, ?_⟩
    obtain ⟨as, ds, S, sr, r, w⟩ := h
    unfold dDef at w
    split at w
    · rename_i e
      exact ⟨as, _, S, sr, er_start r e, gc_ok sr w⟩
    · exact w.elim
end
/-! ### the end, with the table of the def y -/
def spLawT (M : Wd) (y : Str) : Sp := fun vs H Q E => ∃ (a : Addr) (ns : List Int) (P : Addr), vs = [.ref a] ∧ SqL M.K H a (ns.map V.int) ∧ ns.length ≤ 63 ∧ TabK M y P ∧ H P = some (.tbl #[]) ∧ ∀ H', Q (.bl true) H'
theorem law_endT {M : Wd} {y : Str} {F : List DV → AH → Res DV} (ht : ∀ (D : PV) (ns : List Int), ns.length ≤ 63 → (D = .fro (ns.map PV.int) ∨ D = .lst (ns.map PV.int)) → ∃ S, F [.p D] [.tab y] = .ok (.p (.bl true)) S)
    {vs : List V} {H : Hp} {Q : VK} {E : XK} (h : spLawT M y vs H Q E) : spD M F vs H Q E := by
  obtain ⟨a, ns, P, rfl, hS, h63, tk, hP, q⟩ := h
  have z : (ns.map V.int).length ≤ sizeLine := by rw [List.length_map]; exact Nat.le_trans h63 (by decide)
  have off : ∀ o, H a = some o → (∀ ps, o ≠ .tbl ps) → (⟨[P], fun _ => False⟩ : As).off a := fun o e n => ⟨fun m => by
    have : a = P := by simpa using m
    subst this
    rw [hP] at e
    exact n _ (Option.some.inj e).symm, fun z => z⟩
  have sr : SR M ⟨[P], fun _ => False⟩ H [.tab y] := ⟨rfl, by simp, (fun _ _ z => z), (fun _ z => z.elim), fun i b c e1 e2 => by
    cases i with
    | zero =>
      have e1 : P = b := by simpa using e1
      have e2 : Cell.tab y = c := by simpa using e2
      subst e1
      subst e2
      exact ⟨tk, TabN.nil hP⟩
    | succ i => simp at e1⟩
  obtain ⟨D, hD, hr⟩ : ∃ D : PV, (D = .fro (ns.map PV.int) ∨ D = .lst (ns.map PV.int)) ∧ PR M ⟨[P], fun _ => False⟩ H (.ref a) D := by
    rcases hS with (hS | ⟨o, hS⟩) | hS
    · exact ⟨_, .inr rfl, .lst ⟨z, hS, off _ hS (fun ps e => by cases e)⟩ (PRs.of_ints ns)⟩
    · exact ⟨_, .inl rfl, .fro ⟨z, .inl ⟨⟨o, hS⟩, off _ hS (fun ps e => by cases e)⟩⟩ (PRs.of_ints ns)⟩
    · exact ⟨_, .inl rfl, .fro ⟨z, .inr hS⟩ (PRs.of_ints ns)⟩
  obtain ⟨S, e⟩ := ht D ns h63 hD
  refine ⟨⟨[P], fun _ => False⟩, [.p D], [.tab y], sr, .cons hr .nil, ?_⟩
  rw [e]
  intro as' H' b x s rr
  cases rr
  exact q H'
theorem walkT {l : PySem.W.OpenLaw} {k : Nat} {q : Program} {loose : List Str} {XP : (Str → Option Value) → Heap → Prop} {YP : World → Heap → Prop} {d : DefRec} {K : Params → PySem.W.Frag} (y : Str) (hn : l.most = some 63) (hdf : d.params.defaults = []) (hr : Room k callerA)
    (hrec : ((recsOf q).any fun e => e.name == y) = true) (hY : ∀ (w : World) (h : Heap), YP w h → (K w.params).In h)
    (F : ∀ (w : World) (mg : Str → Option Value) (fa : Addr) (h : Heap), (K w.params).In h → h.Ns mainGlobals mg → mg d.name = some (.ref fa) →
      ∃ (fd : FuncData) (f c P : Addr) (o : Obj) (fv : FuncData), (∀ (s : Shared) (u : Value), BindsTo s fd ⟨[u], []⟩ [("script", u)]) ∧ mg y = some (.ref f) ∧ (K w.params).lookup f = some o ∧ o.data = .func fv ∧ fv.code = .ref c ∧ PySem.W.codeHdIn (K w.params) c P = true ∧ (K w.params).lookup P = none ∧
        ∀ base : Heap, TabB base mg c P → FnOk l.prog w (K w.params) mg base (L2.CX l.prog w) k fa fd ["script"] (spLawT ⟨K w.params, mg⟩ y)) :
    PySem.W.WalkO q loose XP YP l.row.toRowW d [] (fun f vs => PySem.call f vs) := by
  refine Att.attach_callB hn hdf fun w s₀ s₁ mg mb fa o0 pm cd doc a vs ns G Y ho hd hcd hmg hobj hints hlen hbits hg => ?_
  have KX := hY w _ Y
  obtain ⟨fd, f, c, P, o, fv, hb, m1, m2, m3, m4, m5, m6, hF⟩ := F w mg fa _ KX G.T.g hmg
  have hd5 := PySem.W.codeHd_of_K KX m5
  have own : s₁.heap.get? P = some { cls := .none, data := .fields #[] } := by
    obtain ⟨dL, hm, hn1⟩ := List.any_eq_true.mp hrec
    have hn2 : dL.name = y := beq_iff_eq.mp hn1
    obtain ⟨a', o', fd', c', P', h1, h2, h3, h4, h5, h6⟩ := G.T.tab dL hm
    rw [hn2, m1] at h1
    cases h1
    have g1 := KX _ _ m2
    rw [g1] at h2
    cases h2
    rw [m3] at h3
    cases h3
    rw [m4] at h4
    cases h4
    obtain ⟨⟨oc, vc, e1, _, e3, e4⟩, hP⟩ := h6
    unfold PySem.W.codeHdIn at m5
    split at m5
    · rename_i vs1 _ hk
      have g2 := KX _ _ hk
      rw [g2] at e1
      cases e1
      cases e3
      simp only [Bool.and_eq_true] at m5
      obtain ⟨⟨⟨⟨⟨z1, _⟩, _⟩, _⟩, _⟩, _⟩ := m5
      rw [e4] at z1
      rw [← beq_iff_eq.mp z1]
      exact hP
    · cases m5
  refine law_callTs (cs := [(c, P)]) (sp := spLawT ⟨K w.params, mg⟩ y) KX G.T.g G.T.b G.T.builtins G.T.nolimit hg ?_ ?_ ?_ G.T.bmain hobj hints (Nat.le_trans hlen (by decide)) hr (fun base _ _ hc => hF base (hc (c, P) List.mem_cons_self)) hb (fun H hH hS => ⟨a, ns, P, rfl, hS, hlen, ⟨f, c, o, fv, m1, m2, m3, m4, m5⟩, hH (c, P) List.mem_cons_self, fun _ => rfl⟩) fun H e s' h => ?_
  · intro p hp
    cases List.mem_singleton.mp hp
    exact own
  · intro p hp
    cases List.mem_singleton.mp hp
    exact m6
  · intro p hp
    cases List.mem_singleton.mp hp
    exact hd5
  · obtain ⟨_, _, _, _, _, _, _, _, _, _, _, _, z⟩ := h
    exact z
theorem kp_aug {i j : Nat} {o : Op2} {fe : Sig → AH → Res DV} (h : j ≠ i) : Kp i (dAug j o fe) := fun δ S => by
  unfold dAug
  split
  · refine kp_out fun b S1 => kp_out fun d S2 => ?_
    show (δ.set j (some d))[i]? = δ[i]?
    rw [List.getElem?_set_ne h]
  · trivial
end DL
namespace DL
noncomputable section
open PySem PySem.Spec PyProof.Rows L2

/-! ### sorted(set(xs)), xs a list of tuples of numbers, all as long -/
/-- sorted by a key, each key once -/
def insC (k : List Int → Int) (a : List Int) : List (List Int) → List (List Int)
  | [] => [a]
  | b :: r => if k a < k b then a :: b :: r else if k a = k b then b :: r else b :: insC k a r
def srtC (k : List Int → Int) : List (List Int) → List (List Int)
  | [] => []
  | a :: r => insC k a (srtC k r)
theorem insC_sub (k : List Int → Int) (a x : List Int) : ∀ l, x ∈ insC k a l → x = a ∨ x ∈ l
  | [], h => by simp [insC] at h; exact .inl h
  | b :: r, h => by
    unfold insC at h
    split at h
    · rcases List.mem_cons.mp h with h | h
      · exact .inl h
      · exact .inr h
    · split at h
      · exact .inr h
      · rcases List.mem_cons.mp h with h | h
        · exact .inr (by rw [h]; exact List.mem_cons_self)
        · rcases insC_sub k a x r h with h | h
          · exact .inl h
          · exact .inr (List.mem_cons_of_mem _ h)
theorem insC_old (k : List Int → Int) (a x : List Int) : ∀ l, x ∈ l → x ∈ insC k a l
  | b :: r, h => by
    unfold insC
    split
    · exact List.mem_cons_of_mem _ h
    · split
      · exact h
      · rcases List.mem_cons.mp h with h | h
        · rw [h]; exact List.mem_cons_self
        · exact List.mem_cons_of_mem _ (insC_old k a x r h)
theorem insC_new (k : List Int → Int) (a : List Int) : ∀ l, (∀ b ∈ l, k a = k b → a = b) → a ∈ insC k a l
  | [], _ => by simp [insC]
  | b :: r, h => by
    unfold insC
    split
    · exact List.mem_cons_self
    · split
      · rename_i q
        rw [h b List.mem_cons_self q]
        exact List.mem_cons_self
      · exact List.mem_cons_of_mem _ (insC_new k a r fun c hc => h c (List.mem_cons_of_mem _ hc))
theorem insC_asc (k : List Int → Int) (a : List Int) : ∀ {l : List (List Int)}, l.Pairwise (fun x y => k x < k y) → (insC k a l).Pairwise (fun x y => k x < k y)
  | [], _ => by simp [insC]
  | b :: r, h => by
    obtain ⟨h1, h2⟩ := List.pairwise_cons.mp h
    unfold insC
    split
    · rename_i q
      refine List.pairwise_cons.mpr ⟨fun y hy => ?_, h⟩
      rcases List.mem_cons.mp hy with rfl | hy
      · exact q
      · have := h1 y hy; omega
    · split
      · exact h
      · refine List.pairwise_cons.mpr ⟨fun y hy => ?_, insC_asc k a h2⟩
        rcases insC_sub k a y r hy with rfl | hy
        · omega
        · exact h1 y hy
theorem srtC_sub (k : List Int → Int) {x : List Int} : ∀ {l}, x ∈ srtC k l → x ∈ l
  | a :: r, h => by
    rcases insC_sub k a x _ h with rfl | h
    · exact List.mem_cons_self
    · exact List.mem_cons_of_mem _ (srtC_sub k h)
theorem srtC_all (k : List Int → Int) {x : List Int} : ∀ {l}, (∀ a ∈ l, ∀ b ∈ l, k a = k b → a = b) → x ∈ l → x ∈ srtC k l
  | a :: r, inj, h => by
    rcases List.mem_cons.mp h with rfl | h
    · exact insC_new k x _ fun b hb e => inj x List.mem_cons_self b (List.mem_cons_of_mem _ (srtC_sub k hb)) e
    · exact insC_old k a x _ (srtC_all k (fun a ha b hb => inj a (List.mem_cons_of_mem _ ha) b (List.mem_cons_of_mem _ hb)) h)
theorem srtC_asc (k : List Int → Int) : ∀ l, (srtC k l).Pairwise (fun x y => k x < k y)
  | [] => .nil
  | a :: r => insC_asc k a (srtC_asc k r)
theorem key_same (k : List Int → Int) : ∀ {l m : List (List Int)}, l.Pairwise (fun x y => k x < k y) → m.Pairwise (fun x y => k x < k y) → (∀ x, x ∈ l ↔ x ∈ m) → l = m
  | [], [], _, _, _ => rfl
  | [], b :: m, _, _, h => by have := (h b).mpr List.mem_cons_self; cases this
  | a :: l, [], _, _, h => by have := (h a).mp List.mem_cons_self; cases this
  | a :: l, b :: m, h1, h2, h => by
    obtain ⟨p1, p2⟩ := List.pairwise_cons.mp h1
    obtain ⟨q1, q2⟩ := List.pairwise_cons.mp h2
    have ab : a = b := by
      rcases List.mem_cons.mp ((h a).mp List.mem_cons_self) with e | e
      · exact e
      · rcases List.mem_cons.mp ((h b).mpr List.mem_cons_self) with e2 | e2
        · exact e2.symm
        · have := p1 b e2
          have := q1 a e
          omega
    subst ab
    rw [key_same k p2 q2 fun x => ?_]
    constructor
    · intro hx
      rcases List.mem_cons.mp ((h x).mp (List.mem_cons_of_mem _ hx)) with e | e
      · have := p1 x hx; rw [e] at this; omega
      · exact e
    · intro hx
      rcases List.mem_cons.mp ((h x).mpr (List.mem_cons_of_mem _ hx)) with e | e
      · have := q1 x hx; rw [e] at this; omega
      · exact e
theorem code_one {B : Int} : ∀ {ns ms : List Int}, TS.Bd B ns → TS.Bd B ms → ns.length = ms.length → TS.code B ns = TS.code B ms → ns = ms
  | [], [], _, _, _, _ => rfl
  | [], _ :: _, _, _, l, _ => by simp at l
  | _ :: _, [], _, _, l, _ => by simp at l
  | d :: r, e :: q, h1, h2, l, h => by
    have l' : r.length = q.length := by simpa using l
    have de : d = e := by
      by_cases c : d < e
      · have := TS.code_lt l' h1.tail h2.tail c; omega
      · by_cases c2 : e < d
        · have := TS.code_lt l'.symm h2.tail h1.tail c2; omega
        · omega
    subst de
    have t : TS.code B r = TS.code B q := by
      have h : d * B ^ r.length + TS.code B r = d * B ^ q.length + TS.code B q := h
      rw [l'] at h
      omega
    rw [code_one h1.tail h2.tail l' t]
/-- tuples of numbers -/
def tupsOf : List PV → Option (List (List Int))
  | [] => some []
  | .tup xs :: r => match intsOf xs, tupsOf r with
    | some ns, some t => some (ns :: t)
    | _, _ => none
  | _ :: _ => none
theorem tupsOf_ok : ∀ {ps : List PV} {nss : List (List Int)}, tupsOf ps = some nss → ps = nss.map fun ns => PV.tup (ns.map PV.int)
  | [], nss, h => by
    obtain rfl : [] = nss := by simpa [tupsOf] using h
    rfl
  | p :: r, nss, h => by
    cases p with
    | tup xs =>
      unfold tupsOf at h
      cases e1 : intsOf xs with
      | none => rw [e1] at h; simp at h
      | some ns =>
        cases e2 : tupsOf r with
        | none => rw [e1, e2] at h; simp at h
        | some t =>
          rw [e1, e2] at h
          obtain rfl : ns :: t = nss := by simpa using h
          rw [List.map_cons, ← tupsOf_ok e2, intsOf_ok e1]
    | _ => simp [tupsOf] at h
theorem tupsOf_map : ∀ nss : List (List Int), tupsOf (nss.map fun ns => PV.tup (ns.map PV.int)) = some nss
  | [] => rfl
  | n :: nss => by rw [List.map_cons, tupsOf, intsOf_map, tupsOf_map nss]
def codeK : List Int → Int := TS.code 1000
open Classical in
/-- words as long, with letters below 1000 -/
def SameW (nss : List (List Int)) : Prop := nss.length < 64 ∧ ∃ d, 1 ≤ d ∧ ∀ ns ∈ nss, ns.length = d ∧ TS.Bd 1000 ns
open Classical in
def ssetW : OpF := fun ds S => match ds with
  | [d] => match litems d S with
    | some xs => match tupsOf xs with
      | some nss => if SameW nss then some ((srtC codeK nss).map fun ns => PV.tup (ns.map PV.int)) else none
      | none => none
    | none => none
  | _ => none
section
variable {M : Wd} {as as' : As} {H H' : Hp}
/-- the tuples of numbers among the values -/
theorem PRs.tups : ∀ {vs : List V} {nss : List (List Int)}, PRs M as H vs (nss.map fun ns => PV.tup (ns.map PV.int)) → ∃ ks : List (Addr × List Int), vs = ks.map (fun p => V.ref p.1) ∧ ks.map (·.2) = nss ∧ ∀ p ∈ ks, PR M as H (.ref p.1) (.tup (p.2.map PV.int))
  | [], [], _ => ⟨[], rfl, rfl, fun p h => by cases h⟩
  | v :: vs, n :: nss, .cons r t => by
    obtain ⟨ks, h1, h2, h3⟩ := PRs.tups t
    cases r with
    | tup h q => exact ⟨(_, n) :: ks, by rw [h1]; rfl, by rw [← h2]; rfl, fun p hp => by
        rcases List.mem_cons.mp hp with rfl | hp
        · exact .tup h q
        · exact h3 p hp⟩
theorem PR.sqi {a : Addr} {ns : List Int} (h : PR M as H (.ref a) (.tup (ns.map PV.int))) : SqT M.K H a (ns.map V.int) := by
  cases h with
  | tup h t =>
    have := h.sq
    rwa [t.ints] at this
theorem prs_of : ∀ {ks : List (Addr × List Int)}, (∀ p ∈ ks, PR M as H (.ref p.1) (.tup (p.2.map PV.int))) → PRs M as H (ks.map fun p => V.ref p.1) ((ks.map (·.2)).map fun ns => PV.tup (ns.map PV.int))
  | [], _ => .nil
  | p :: ks, h => .cons (h p List.mem_cons_self) (prs_of fun q hq => h q (List.mem_cons_of_mem _ hq))
end
section
variable {X : Cx} {E : L2.St → XK} {e : Expr} {p p2 q pos : Pos} {fe : Sig → AH → Res DV}
theorem fe_ssetW (g : Gd X E) (hu : X.A.units + 64 < cLine) (hg : Gl X "sorted") (hm : X.mg "sorted" = none) (hg2 : Gl X "set") (hm2 : X.mg "set" = none) (he : DE X E e fe) (hs : starEach [e] X.env = [(false, eval e X.env)] := by rfl) (hs2 : starEach [Expr.Call (.Name "set" p2) [e] [] q] X.env = [(false, eval (Expr.Call (.Name "set" p2) [e] [] q) X.env)] := by rfl) :
    FE X E (.Call (.Name "sorted" p) [.Call (.Name "set" p2) [e] [] q] [] pos) (dAppF ssetW (dCons fe dNil)) :=
  (pe_callB (cr_sortedT g.calm) hg hm (by kernel_rfl) (pa_cons (pe_callTy (cr_setOfT g.calm hu) hg2 hm2 (by kernel_rfl) (pa_cons he pa_nil hs) (by decide) (by decide) hs rfl) pa_nil hs2) (by decide) (by decide) hs2 rfl).imp fun σ H Q ⟨as, δ, S, sr, er, w⟩ => by
  have w : WF (wd X) (E σ) as H ((fe δ S).bind fun d S1 => match ssetW [d] S1 with
    | some ps => .ok ps S1
    | none => .bad) Q := by
    have e1 : dAppF ssetW (dCons fe dNil) δ S = (fe δ S).bind fun d S1 => match ssetW [d] S1 with
      | some ps => .ok ps S1
      | none => .bad := by
      show (Res.bind (Res.bind (fe δ S) _) _) = _
      cases fe δ S <;> rfl
    rw [← e1]
    exact w
  refine ⟨as, δ, S, sr, er, (WF.bind (R := DVR (wd X)) w).mono fun _ _ _ _ v _ _ _ _ ⟨as1, S1, d1, _, x1, s1, r1, w1⟩ => ?_⟩
  cases e1 : litems d1 S1 with
  | none => simp only [ssetW, e1] at w1; exact w1.elim
  | some xs =>
    cases e2 : tupsOf xs with
    | none => simp only [ssetW, e1, e2] at w1; exact w1.elim
    | some nss =>
      by_cases hw : SameW nss
      case neg => simp only [ssetW, e1, e2, if_neg hw] at w1; exact w1.elim
      simp only [ssetW, e1, e2, if_pos hw] at w1
      obtain ⟨h64, d, hd, hb⟩ := hw
      obtain ⟨a, vs, rfl, hz, hq, t⟩ := litems_sq s1 r1 e1
      rw [tupsOf_ok e2] at t
      obtain ⟨ks, k1, k2, k3⟩ := t.tups
      subst k1
      refine ⟨a, ks, rfl, hq, fun p hp => (k3 p hp).sqi, by rw [← k2, List.length_map] at h64; exact h64, fun b L nb hL hA => ?_⟩
      have x2 := ext_new (o := SetTO X.prog X.w b L) s1 nb
      have k3' : ∀ p ∈ ks, PR (wd X) as1 (upd _ b (SetTO X.prog X.w b L)) (.ref p.1) (.tup (p.2.map PV.int)) := fun p hp => (k3 p hp).mono x2.w
      have hbk : ∀ p ∈ ks, p.2.length = d ∧ TS.Bd 1000 p.2 := fun p hp => hb p.2 (by rw [← k2]; exact List.mem_map.mpr ⟨p, hp, rfl⟩)
      refine ⟨b, L, d, 1000, rfl, upd_same, fun p hp => (k3' p (hL p hp)).sqi, hd, fun p hp => hbk p (hL p hp), fun L' c pm nd len pw nc => ?_⟩
      have hL' : ∀ p ∈ L', p ∈ ks := fun p hp => hL p (pm.mem_iff.mp hp)
      have en : L'.map (·.2) = srtC codeK nss := by
        refine key_same codeK ?_ (srtC_asc codeK nss) fun x => ?_
        · have pw' : (L'.map (·.2)).Pairwise fun x y => codeK x ≤ codeK y := List.pairwise_map.mpr pw
          refine (pw'.and nd).imp_of_mem fun {x y} hx hy h => ?_
          obtain ⟨p, hp, rfl⟩ := List.mem_map.mp hx
          obtain ⟨p', hp', rfl⟩ := List.mem_map.mp hy
          obtain ⟨b1, b2⟩ := hbk p (hL' p hp)
          obtain ⟨b3, b4⟩ := hbk p' (hL' p' hp')
          by_cases ce : codeK p.2 = codeK p'.2
          · exact absurd (code_one b2 b4 (b1.trans b3.symm) ce) h.2
          · have := h.1; omega
        · constructor
          · intro hx
            obtain ⟨p, hp, rfl⟩ := List.mem_map.mp hx
            refine srtC_all codeK (fun a ha b hb' ce => code_one (hb a ha).2 (hb b hb').2 ((hb a ha).1.trans (hb b hb').1.symm) ce) ?_
            rw [← k2]; exact List.mem_map.mpr ⟨p, hL' p hp, rfl⟩
          · intro hx
            have hx := srtC_sub codeK hx
            rw [← k2] at hx
            obtain ⟨p, hp, rfl⟩ := List.mem_map.mp hx
            obtain ⟨p', hp', e'⟩ := List.mem_map.mp (hA p hp)
            exact List.mem_map.mpr ⟨p', pm.mem_iff.mpr hp', e'⟩
      have pr := prs_of (ks := L') fun p hp => k3' p (hL' p hp)
      rw [en] at pr
      exact (WF.later x2 w1).here (s1.new nb) (by rw [List.length_map, sizeLine_eq]; omega) pr nc
end
end
end DL
namespace DL
noncomputable section
open PySem PySem.Spec PyProof.Rows L2

/-! ### a, o[i] = a pair -/
def dAsgS (j : Nat) (fe fo fi : Sig → AH → Res DV) : Sig → AH → Out := fun δ S => (fe δ S).out δ fun v S => match v with
  | .p (.tup [a, b]) => (fo (δ.set j (some (.p a))) S).out (δ.set j (some (.p a))) fun o S => (fi (δ.set j (some (.p a))) S).out (δ.set j (some (.p a))) fun i S => match setIx o i (.p b) S with
    | some S' => .nx (δ.set j (some (.p a))) S'
    | none => .bad
  | _ => .bad
section
variable {X : Cx} {E : L2.St → XK} {o i e : Expr} {pos tpos npos ppos : Pos} {fe fo fi : Sig → AH → Res DV} {j k : Nat} {x : Str}
theorem ds_asgS (hc : X.calm = true) (hN : X.N.Nodup) (hj : X.N[j]? = some x) (hx : Loc X.env.scope x) (he : DE X E e fe) (ho : DE X E o fo) (hi : DE X E i fi)
    (hf : X.fn x = true ∨ X.env.scope.names.lookup x = some .local := by first | exact .inl rfl | exact .inr rfl | assumption)
    (hs : swapsWithSole [.Tuple [.Name x npos, .Subscript o i tpos] k ppos] e pos.line X.env = pure false := by rfl) (hw : swappedStores [.Tuple [.Name x npos, .Subscript o i tpos] k ppos] e X.env = pure none := by rfl)
    (h1 : (assignEach [.Tuple [.Name x npos, .Subscript o i tpos] k ppos] X.env).map (·.2) = [assign (.Tuple [.Name x npos, .Subscript o i tpos] k ppos) X.env] := by rfl)
    (ha : ∀ v, assign (.Subscript o i tpos) X.env v = (do
      let ov ← holding [v] (eval o X.env)
      let iv ← holding [v, ov] (eval i X.env)
      standAt tpos
      holding [v, ov, iv] (setItem ov iv v)
      release [v, ov, iv] []) := by intro _; rfl)
    (c1 : (assignEach [.Name x npos, .Subscript o i tpos] X.env).map (·.2) = assign (.Name x npos) X.env :: (assignEach [.Subscript o i tpos] X.env).map (·.2) := by rfl)
    (c2 : (assignEach [.Subscript o i tpos] X.env).map (·.2) = assign (.Subscript o i tpos) X.env :: (assignEach [] X.env).map (·.2) := by rfl)
    (hn : (assignEach [.Name x npos, .Subscript o i tpos] X.env).length = 2 := by rfl) (hst : (assignEach [.Name x npos, .Subscript o i tpos] X.env).findIdx? (·.1) = none := by rfl) :
    DS X E (.Assign [.Tuple [.Name x npos, .Subscript o i tpos] k ppos] e pos) (dAsgS j fe fo fi) :=
  (ps_asg he (pg_tup hc (pgs_cons (pg_name hN hj hx hf) (pgs_cons (pg_sub ho hi ow_setIx ha) pgs_nil c2) c1) hn hst) hs hw h1).imp fun D σ H ⟨as, δ, S, sr, er, w⟩ =>
  ⟨as, δ, S, sr, er, (w.bind er).mono fun _ _ _ _ _ _ _ _ _ ⟨as1, S1, d1, _, x1, s1, r1, w1⟩ => by
    split at w1
    · cases r1 with
      | tup h t =>
        obtain ⟨v, v2, rfl, r, r'⟩ := DVRs.two t.dvrs
        have er1 := (er.mono x1.w).set r j
        refine ⟨_, _, rfl, h.sq, rfl, _, _, rfl, _, _, rfl, as1, _, S1, s1, er1, (w1.bind er1).mono fun _ _ _ _ _ _ _ _ _ ⟨as2, S2, d2, _, x2, s2, r2, w2⟩ =>
          ⟨as2, _, S2, s2, er1.mono x2.w, (w2.bind (er1.mono x2.w)).mono fun _ _ _ _ _ _ _ _ _ ⟨as3, S3, d3, _, x3, s3, r3, w3⟩ => ?_⟩⟩
        split at w3
        · rename_i S' eq
          exact ⟨as3, S3, d2, d3, _, s3, r2.mono x3.w, r3, (r'.mono x2.w).mono x3.w, S', eq, fun as' H' x s => ⟨rfl, w3 as' H' _ x s (((er1.mono x2.w).mono x3.w).mono x.w)⟩⟩
        · exact w3.elim
    · exact w1.elim⟩
end
end
end DL
namespace DL
open PySem PySem.Spec PyProof.Rows L2
def topS (i : Nat) : Stmt := PySem.Challenge.pw_carrierroads_k25_whole_colours_kept.main.body.getD i (.Pass ⟨0, 0, 0, 0⟩)
abbrev s_is_integer : Stmt := topS 4
theorem sc_is_integer : FnScope ["value"] ["value"] (defScope s_is_integer) := ⟨rfl, rfl, rfl, by decide +kernel, rfl, by decide +kernel, by decide +kernel⟩
noncomputable def b_is_integer_ : Sig → AH → Out := (dRet (dAndV (dIsi "int" (dVar 0)) (dNotV (dIsi "bool" (dVar 0)))))
noncomputable def d_is_integer : List DV → AH → Res DV := dDef 1 1 false b_is_integer_
abbrev s_is_ball : Stmt := topS 8
theorem sc_is_ball : FnScope ["value"] ["value"] (defScope s_is_ball) := ⟨rfl, rfl, rfl, by decide +kernel, rfl, by decide +kernel, by decide +kernel⟩
noncomputable def b_is_ball_ : Sig → AH → Out := (dSeq (dIf (dOr (dNot (dTru (dIsi "tuple" (dVar 0)))) (dOr (blOf (dBin neO (dApp lenO (dCons (dVar 0) dNil)) (dC (.int 2)))) (dOr (dNot (dTru (dCall d_is_integer (dCons (dBin ixO (dVar 0) (dC (.int 0))) dNil)))) (dNot (dTru (dCall d_is_integer (dCons (dBin ixO (dVar 0) (dC (.int 1))) dNil))))))) (dRet (dC (.bl false))) dPass)
    (dRet (dAndV (dBin leO (dApp absO (dCons (dBin ixO (dVar 0) (dC (.int 0))) dNil)) (dC (.int 1000000000000))) (dChain leO leO (dC (.int 1)) (dBin ixO (dVar 0) (dC (.int 1))) (dC (.int 3))))))
noncomputable def d_is_ball : List DV → AH → Res DV := dDef 1 1 false b_is_ball_
abbrev s_is_standing : Stmt := topS 9
theorem sc_is_standing : FnScope ["value", "ball", "k"] ["value"] (defScope s_is_standing) := ⟨rfl, rfl, rfl, by decide +kernel, rfl, by decide +kernel, by decide +kernel⟩
noncomputable def b_is_standing_ : Sig → AH → Out := (dSeq (dIf (dOr (dNot (dTru (dIsi "tuple" (dVar 0)))) (dOr (blOf (dBin gtO (dApp lenO (dCons (dVar 0) dNil)) (dC (.int 12)))) (dNot (dTru (dApp allO (dCons (dVal (dLc (dSeqI (dVar 0)) (.nm 1) dYes (dCall d_is_ball (dCons (dVar 1) dNil)) [1])) dNil)))))) (dRet (dC (.bl false))) dPass)
    (dRet (dApp allO (dCons (dVal (dLc (dRng2 (dCons (dC (.int 1)) (dCons (dApp lenO (dCons (dVar 0) dNil)) dNil))) (.nm 2) dYes (dBin ltO (dBin ixO (dBin ixO (dVar 0) (dBin subO (dVar 2) (dC (.int 1)))) (dC (.int 0))) (dBin ixO (dBin ixO (dVar 0) (dVar 2)) (dC (.int 0)))) [2])) dNil))))
noncomputable def d_is_standing : List DV → AH → Res DV := dDef 3 1 false b_is_standing_
abbrev s_check_standing : Stmt := topS 10
theorem sc_check_standing : FnScope ["s"] ["s"] (defScope s_check_standing) := ⟨rfl, rfl, rfl, by decide +kernel, rfl, by decide +kernel, by decide +kernel⟩
noncomputable def b_check_standing_ : Sig → AH → Out := (dIf (dNot (dTru (dCall d_is_standing (dCons (dVar 0) dNil)))) (dRaise "Malformed") dPass)
noncomputable def d_check_standing : List DV → AH → Res DV := dDef 1 1 false b_check_standing_
abbrev s_colours_of : Stmt := topS 11
theorem sc_colours_of : FnScope ["s", "place", "colour"] ["s"] (defScope s_colours_of) := ⟨rfl, rfl, rfl, by decide +kernel, rfl, by decide +kernel, by decide +kernel⟩
noncomputable def b_colours_of_ : Sig → AH → Out := (dSeq (dDrop (dCall d_check_standing (dCons (dVar 0) dNil)))
    (dRet (dApp tupleO (dCons (dVal (dLc (dSeqI (dVar 0)) (.tp [(.nm 1), (.nm 2)]) dYes (dVar 2) [1, 2])) dNil))))
noncomputable def d_colours_of : List DV → AH → Res DV := dDef 3 1 false b_colours_of_
abbrev s_is_room : Stmt := topS 14
theorem sc_is_room : FnScope ["value"] ["value"] (defScope s_is_room) := ⟨rfl, rfl, rfl, by decide +kernel, rfl, by decide +kernel, by decide +kernel⟩
noncomputable def b_is_room_ : Sig → AH → Out := (dRet (dAndV (dCall d_is_integer (dCons (dVar 0) dNil)) (dChain leO leO (dC (.int 1)) (dVar 0) (dC (.int 1000)))))
noncomputable def d_is_room : List DV → AH → Res DV := dDef 1 1 false b_is_room_
abbrev s_check_room : Stmt := topS 15
theorem sc_check_room : FnScope ["l"] ["l"] (defScope s_check_room) := ⟨rfl, rfl, rfl, by decide +kernel, rfl, by decide +kernel, by decide +kernel⟩
noncomputable def b_check_room_ : Sig → AH → Out := (dIf (dNot (dTru (dCall d_is_room (dCons (dVar 0) dNil)))) (dRaise "Malformed") dPass)
noncomputable def d_check_room : List DV → AH → Res DV := dDef 1 1 false b_check_room_
abbrev s_held_letters : Stmt := topS 16
theorem sc_held_letters : FnScope ["held", "letter"] ["held"] (defScope s_held_letters) := ⟨rfl, rfl, rfl, by decide +kernel, rfl, by decide +kernel, by decide +kernel⟩
noncomputable def b_held_letters_ : Sig → AH → Out := (dRet (dVal (dLc (dRng1 (dCons (dC (.int 4)) dNil)) (.nm 1) (blOf (dBin gtO (dBin ixO (dVar 0) (dVar 1)) (dC (.int 0)))) (dVar 1) [1])))
noncomputable def d_held_letters : List DV → AH → Res DV := dDef 2 1 false b_held_letters_
abbrev s_laid_down : Stmt := topS 17
theorem sc_laid_down : FnScope ["held", "letter", "below", "a"] ["held", "letter"] (defScope s_laid_down) := ⟨rfl, rfl, rfl, by decide +kernel, rfl, by decide +kernel, by decide +kernel⟩
noncomputable def b_laid_down_ : Sig → AH → Out := (dSeq (dSetF 2 (dLc (dSeqI (dCall d_held_letters (dCons (dVar 0) dNil))) (.nm 3) (blOf (dBin ltO (dVar 3) (dVar 1))) (dVar 3) [3]))
    (dSeq (dIf (blOf (dBin gtO (dApp lenO (dCons (dVar 2) dNil)) (dC (.int 0)))) (dRet (dBin ixO (dVar 2) (dUn negO (dC (.int 1))))) dPass)
    (dRet (dBin ixO (dCall d_held_letters (dCons (dVar 0) dNil)) (dUn negO (dC (.int 1)))))))
noncomputable def d_laid_down : List DV → AH → Res DV := dDef 4 2 false b_laid_down_
abbrev s_laid_back : Stmt := topS 18
theorem sc_laid_back : FnScope ["held", "letter", "above", "a"] ["held", "letter"] (defScope s_laid_back) := ⟨rfl, rfl, rfl, by decide +kernel, rfl, by decide +kernel, by decide +kernel⟩
noncomputable def b_laid_back_ : Sig → AH → Out := (dSeq (dSetF 2 (dLc (dSeqI (dCall d_held_letters (dCons (dVar 0) dNil))) (.nm 3) (blOf (dBin gtO (dVar 3) (dVar 1))) (dVar 3) [3]))
    (dSeq (dIf (blOf (dBin gtO (dApp lenO (dCons (dVar 2) dNil)) (dC (.int 0)))) (dRet (dBin ixO (dVar 2) (dC (.int 0)))) dPass)
    (dRet (dBin ixO (dCall d_held_letters (dCons (dVar 0) dNil)) (dC (.int 0))))))
noncomputable def d_laid_back : List DV → AH → Res DV := dDef 4 2 false b_laid_back_
abbrev s_visited : Stmt := topS 19
theorem sc_visited : FnScope ["s", "l", "step", "choice", "held", "found", "x", "visit", "place", "colour"] ["s", "l", "step"] (defScope s_visited) := ⟨rfl, rfl, rfl, by decide +kernel, rfl, by decide +kernel, by decide +kernel⟩
abbrev s_visited_visit : Stmt := (defBody s_visited).getD 4 (.Pass ⟨0, 0, 0, 0⟩)
theorem sc_visited_visit : NdefX.NScope ["letter", "choice", "held", "found", "x", "load_here", "out"] ["letter"] ["choice", "held", "found", "x"] (C8.fnScope s_visited_visit) := NdefX.nscope_by (by decide +kernel)
theorem nb_visited_visit : NdefX.ndefB (defScope s_visited) (C8.fnScope s_visited_visit) ["choice", "held", "found", "x"] = true := by decide +kernel
noncomputable def b_visited_visit : Sig → AH → Out := (dSeq (dSet 5 (dApp tupleO (dCons (dSl (dVar 2) (dPart (dC (.int 1))) dNoPart) dNil)))
    (dSeq (dSet 6 (dCallV [("laid_down", d_laid_down), ("laid_back", d_laid_back)] (dVar 1) (dCons (dVar 2) (dCons (dVar 0) dNil))))
    (dSeq (dAugS (intO2 fun i j => i - j) (dVar 2) (dVar 6) (dC (.int 1)))
    (dSeq (dAugS (intO2 fun i j => i + j) (dVar 2) (dVar 0) (dC (.int 1)))
    (dDrop (dMeth appendM (dVar 3) (dCons (dTup (dCons (dVar 4) (dCons (dVar 0) (dCons (dVar 6) (dCons (dVar 5) dNil))))) dNil)))))))
noncomputable def d_visited_visit : List DV → List (Option DV) → AH → Res DV := dLoc 7 1 4 false b_visited_visit
noncomputable def L0_visited : Sig → AH → Out := (dSeq (dDrop (dCallN [3, 4, 5, 6] d_visited_visit (dCons (dC (.int 0)) dNil)))
    (dAug 6 (intO2 fun i j => i + j) (dVar 2)))
noncomputable def L1_visited : Sig → AH → Out := (dSeq (dWhile (dAnd (blOf (dBin ltO (dBin ixO (dVar 4) (dC (.int 0))) (dVar 1))) (blOf (dBin neO (dVar 6) (dVar 8)))) L0_visited)
    (dSeq (dSet 6 (dVar 8))
    (dSeq (dDrop (dCallN [3, 4, 5, 6] d_visited_visit (dCons (dVar 9) dNil)))
    (dAug 6 (intO2 fun i j => i + j) (dVar 2)))))
noncomputable def L2_visited : Sig → AH → Out := (dSeq (dDrop (dCallN [3, 4, 5, 6] d_visited_visit (dCons (dC (.int 0)) dNil)))
    (dAug 6 (intO2 fun i j => i + j) (dVar 2)))
noncomputable def b_visited_ : Sig → AH → Out := (dSeq (dSet 3 (dIte (blOf (dBin gtO (dVar 2) (dC (.int 0)))) (dC (.glob "laid_down")) (dC (.glob "laid_back"))))
    (dSeq (dSet 4 (dCell (dLst (dCons (dVar 1) (dCons (dC (.int 0)) (dCons (dC (.int 0)) (dCons (dC (.int 0)) dNil)))))))
    (dSeq (dSet 5 (dCell (dLst dNil)))
    (dSeq (dSet 6 (dC (.int 0)))
    (dNdef "visited" 7
    (dSeq (dFor (dSeqI (dStep (dVar 0) (dVar 2))) (.tp [(.nm 8), (.nm 9)]) L1_visited)
    (dSeq (dWhile (blOf (dBin ltO (dBin ixO (dVar 4) (dC (.int 0))) (dVar 1))) L2_visited)
    (dRet (dVar 5)))))))))
noncomputable def d_visited : List DV → AH → Res DV := dDef 10 3 false b_visited_
abbrev s_run_once : Stmt := topS 20
theorem sc_run_once : FnScope ["s", "l", "x", "_", "out"] ["s", "l"] (defScope s_run_once) := ⟨rfl, rfl, rfl, by decide +kernel, rfl, by decide +kernel, by decide +kernel⟩
noncomputable def b_run_once_ : Sig → AH → Out := (dRet (dApp tupleO (dCons (dVal (dLc (dSeqI (dCall d_visited (dCons (dVar 0) (dCons (dVar 1) (dCons (dC (.int 1)) dNil))))) (.tp [(.nm 2), (.nm 3), (.nm 4), (.nm 3)]) (blOf (dBin gtO (dVar 4) (dC (.int 0)))) (dTup (dCons (dVar 2) (dCons (dVar 4) dNil))) [2, 3, 4])) dNil)))
noncomputable def d_run_once : List DV → AH → Res DV := dDef 5 2 false b_run_once_
abbrev s_carried : Stmt := topS 22
theorem sc_carried : FnScope ["s", "l"] ["s", "l"] (defScope s_carried) := ⟨rfl, rfl, rfl, by decide +kernel, rfl, by decide +kernel, by decide +kernel⟩
noncomputable def b_carried_ : Sig → AH → Out := (dSeq (dDrop (dCall d_check_standing (dCons (dVar 0) dNil)))
    (dSeq (dDrop (dCall d_check_room (dCons (dVar 1) dNil)))
    (dRet (dCall d_run_once (dCons (dVar 0) (dCons (dVar 1) dNil))))))
noncomputable def d_carried : List DV → AH → Res DV := dDef 2 2 false b_carried_
abbrev s_run_back : Stmt := topS 21
theorem sc_run_back : FnScope ["s", "l", "x", "_", "out"] ["s", "l"] (defScope s_run_back) := ⟨rfl, rfl, rfl, by decide +kernel, rfl, by decide +kernel, by decide +kernel⟩
noncomputable def b_run_back_ : Sig → AH → Out := (dRet (dApp tupleO (dCons (dUn revO (dVal (dLc (dSeqI (dCall d_visited (dCons (dVar 0) (dCons (dVar 1) (dCons (dUn negO (dC (.int 1))) dNil))))) (.tp [(.nm 2), (.nm 3), (.nm 4), (.nm 3)]) (blOf (dBin gtO (dVar 4) (dC (.int 0)))) (dTup (dCons (dVar 2) (dCons (dVar 4) dNil))) [2, 3, 4]))) dNil)))
noncomputable def d_run_back : List DV → AH → Res DV := dDef 5 2 false b_run_back_
abbrev s_carried_back : Stmt := topS 23
theorem sc_carried_back : FnScope ["s", "l"] ["s", "l"] (defScope s_carried_back) := ⟨rfl, rfl, rfl, by decide +kernel, rfl, by decide +kernel, by decide +kernel⟩
noncomputable def b_carried_back_ : Sig → AH → Out := (dSeq (dDrop (dCall d_check_standing (dCons (dVar 0) dNil)))
    (dSeq (dDrop (dCall d_check_room (dCons (dVar 1) dNil)))
    (dRet (dCall d_run_back (dCons (dVar 0) (dCons (dVar 1) dNil))))))
noncomputable def d_carried_back : List DV → AH → Res DV := dDef 2 2 false b_carried_back_
abbrev s_law_state : Stmt := topS 25
theorem sc_law_state : FnScope ["script", "seed", "total", "cell"] ["script"] (defScope s_law_state) := ⟨rfl, rfl, rfl, by decide +kernel, rfl, by decide +kernel, by decide +kernel⟩
noncomputable def L0_law_state : Sig → AH → Out := (dSeq (dSet 1 (dBin addO (dBin mulO1 (dVar 1) (dC (.int 1000003))) (dApp absO (dCons (dVar 3) dNil))))
    (dSet 2 (dBin modO (dApp intO (dCons (dBin addO (dBin mulO1 (dVar 2) (dC (.int 48271))) (dVar 3)) dNil)) (dC (.int 2147483647)))))
noncomputable def b_law_state_ : Sig → AH → Out := (dSeq (dSet 1 (dC (.int 0)))
    (dSeq (dSet 2 (dC (.int 1)))
    (dSeq (dFor (dSeqI (dSl (dVar 0) dNoPart (dPart (dC (.int 63))))) (.nm 3) L0_law_state)
    (dRet (dCell (dLst (dCons (dVar 1) (dCons (dVar 2) dNil))))))))
noncomputable def d_law_state : List DV → AH → Res DV := dDef 4 1 true b_law_state_
abbrev s_law_take : Stmt := topS 26
theorem sc_law_take : FnScope ["state", "m", "value"] ["state", "m"] (defScope s_law_take) := ⟨rfl, rfl, rfl, by decide +kernel, rfl, by decide +kernel, by decide +kernel⟩
noncomputable def b_law_take_ : Sig → AH → Out := (dSeq (dIf (blOf (dBin gtO (dBin ixO (dVar 0) (dC (.int 0))) (dC (.int 0)))) (dSeq (dSet 2 (dBin modO (dApp intO (dCons (dBin ixO (dVar 0) (dC (.int 0))) dNil)) (dVar 1)))
    (dSeq (dSub (dBin divO (dBin ixO (dVar 0) (dC (.int 0))) (dVar 1)) (dVar 0) (dC (.int 0)))
    (dRet (dVar 2)))) dPass)
    (dSeq (dSub (dBin modO (dApp intO (dCons (dBin addO (dBin mulO1 (dBin ixO (dVar 0) (dC (.int 1))) (dC (.int 48271))) (dC (.int 11))) dNil)) (dC (.int 2147483647))) (dVar 0) (dC (.int 1)))
    (dRet (dBin modO (dApp intO (dCons (dBin divO (dBin ixO (dVar 0) (dC (.int 1))) (dC (.int 7))) dNil)) (dVar 1)))))
noncomputable def d_law_take : List DV → AH → Res DV := dDef 3 2 false b_law_take_
abbrev s_law_plain : Stmt := topS 27
theorem sc_law_plain : FnScope ["value", "item"] ["value"] (defScope s_law_plain) := ⟨rfl, rfl, rfl, by decide +kernel, rfl, by decide +kernel, by decide +kernel⟩
noncomputable def d_law_plain : Nat → List DV → AH → Res DV
  | 0 => fun _ _ => .bad
  | n + 1 => dDef 2 1 false ((dSeq (dIf (dTru (dIsi "tuple" (dVar 0))) (dRet (dApp tupleO (dCons (dVal (dLc (dSeqI (dVar 0)) (.nm 1) dYes (dCall (d_law_plain n) (dCons (dVar 1) dNil)) [1])) dNil))) dPass)
    (dSeq (dIf (dOr (blOf (dBin isO (dVar 0) (dC .non))) (dOr (dTru (dIsi "str" (dVar 0))) (dAnd (dTru (dIsi "int" (dVar 0))) (dNot (dTru (dIsi "bool" (dVar 0))))))) (dRet (dVar 0)) dPass)
    (dRet (dC (.str "odd"))))))
abbrev s_law_standing : Stmt := topS 28
theorem sc_law_standing : FnScope ["state", "most", "near", "colours", "place", "found", "k"] ["state", "most"] (defScope s_law_standing) := ⟨rfl, rfl, rfl, by decide +kernel, rfl, by decide +kernel, by decide +kernel⟩
noncomputable def L0_law_standing : Sig → AH → Out := (dSeq (dDrop (dMeth appendM (dVar 5) (dCons (dTup (dCons (dVar 4) (dCons (dBin ixO (dVar 3) (dCall d_law_take (dCons (dVar 0) (dCons (dApp lenO (dCons (dVar 3) dNil)) dNil)))) dNil))) dNil)))
    (dSeq (dSet 4 (dBin addO (dBin addO (dVar 4) (dC (.int 1))) (dBin mulO1 (dCall d_law_take (dCons (dVar 0) (dCons (dVar 2) dNil))) (dCall d_law_take (dCons (dVar 0) (dCons (dC (.int 2)) dNil))))))
    (dIf (blOf (dBin eqO (dCall d_law_take (dCons (dVar 0) (dCons (dC (.int 12)) dNil))) (dC (.int 0)))) (dSet 4 (dBin addO (dVar 4) (dCall d_law_take (dCons (dVar 0) (dCons (dBin ixO (dVal (dLst (dCons (dC (.int 30)) (dCons (dBin powO (dC (.int 10)) (dC (.int 5))) dNil)))) (dCall d_law_take (dCons (dVar 0) (dCons (dC (.int 2)) dNil)))) dNil))))) dPass)))
noncomputable def b_law_standing_ : Sig → AH → Out := (dSeq (dSet 2 (dBin ixO (dVal (dLst (dCons (dC (.int 2)) (dCons (dC (.int 4)) (dCons (dC (.int 9)) dNil))))) (dCall d_law_take (dCons (dVar 0) (dCons (dC (.int 3)) dNil)))))
    (dSeq (dSet 3 (dBin ixO (dVal (dLst (dCons (dVal (dLst (dCons (dC (.int 1)) dNil))) (dCons (dVal (dLst (dCons (dC (.int 1)) (dCons (dC (.int 2)) dNil)))) (dCons (dVal (dLst (dCons (dC (.int 1)) (dCons (dC (.int 2)) (dCons (dC (.int 3)) dNil))))) (dCons (dVal (dLst (dCons (dC (.int 2)) (dCons (dC (.int 3)) (dCons (dC (.int 1)) (dCons (dC (.int 1)) (dCons (dC (.int 2)) dNil))))))) (dCons (dVal (dLst (dCons (dC (.int 3)) (dCons (dC (.int 1)) dNil)))) dNil))))))) (dCall d_law_take (dCons (dVar 0) (dCons (dC (.int 5)) dNil)))))
    (dSeq (dSet 4 (dBin ixO (dVal (dLst (dCons (dC (.int 0)) (dCons (dBin subO (dCall d_law_take (dCons (dVar 0) (dCons (dC (.int 41)) dNil))) (dC (.int 20))) (dCons (dUn negO (dBin powO (dC (.int 10)) (dC (.int 12)))) (dCons (dBin subO (dBin powO (dC (.int 10)) (dC (.int 12))) (dBin powO (dC (.int 10)) (dC (.int 7)))) dNil)))))) (dCall d_law_take (dCons (dVar 0) (dCons (dC (.int 4)) dNil)))))
    (dSeq (dSet 5 (dCell (dLst dNil)))
    (dSeq (dFor (dRng1 (dCons (dCall d_law_take (dCons (dVar 0) (dCons (dBin addO (dVar 1) (dC (.int 1))) dNil))) dNil)) (.nm 6) L0_law_standing)
    (dRet (dApp tupleO (dCons (dVar 5) dNil))))))))
noncomputable def d_law_standing : List DV → AH → Res DV := dDef 7 2 false b_law_standing_
abbrev s_law_room : Stmt := topS 29
theorem sc_law_room : FnScope ["state"] ["state"] (defScope s_law_room) := ⟨rfl, rfl, rfl, by decide +kernel, rfl, by decide +kernel, by decide +kernel⟩
noncomputable def b_law_room_ : Sig → AH → Out := (dRet (dBin ixO (dVal (dLst (dCons (dBin addO (dC (.int 1)) (dCall d_law_take (dCons (dVar 0) (dCons (dC (.int 4)) dNil)))) (dCons (dBin addO (dC (.int 1)) (dCall d_law_take (dCons (dVar 0) (dCons (dC (.int 13)) dNil)))) (dCons (dBin addO (dC (.int 1)) (dCall d_law_take (dCons (dVar 0) (dCons (dC (.int 1000)) dNil)))) (dCons (dC (.int 1000)) dNil)))))) (dCall d_law_take (dCons (dVar 0) (dCons (dC (.int 4)) dNil)))))
noncomputable def d_law_room : List DV → AH → Res DV := dDef 1 1 false b_law_room_
abbrev s_law_tableau : Stmt := topS 30
theorem sc_law_tableau : FnScope ["word", "rows", "letter", "x", "i", "step", "later", "k"] ["word"] (defScope s_law_tableau) := ⟨rfl, rfl, rfl, by decide +kernel, rfl, by decide +kernel, by decide +kernel⟩
noncomputable def L0_law_tableau : Sig → AH → Out := (dSeq (dIf (blOf (dBin eqO (dVar 4) (dApp lenO (dCons (dVar 1) dNil)))) (dSeq (dDrop (dMeth appendM (dVar 1) (dCons (dCell (dLst (dCons (dVar 3) dNil))) dNil)))
    dBreak) dPass)
    (dSeq (dSetF 6 (dLc (dRng1 (dCons (dApp lenO (dCons (dBin ixO (dVar 1) (dVar 4)) dNil)) dNil)) (.nm 7) (blOf (dBin gtO (dBin ixO (dBin ixO (dVar 1) (dVar 4)) (dVar 7)) (dVar 3))) (dVar 7) [7]))
    (dSeq (dIf (blOf (dBin eqO (dApp lenO (dCons (dVar 6) dNil)) (dC (.int 0)))) (dSeq (dDrop (dMeth appendM (dBin ixO (dVar 1) (dVar 4)) (dCons (dVar 3) dNil)))
    dBreak) dPass)
    (dSeq (dAsgS 3 (dTup (dCons (dBin ixO (dBin ixO (dVar 1) (dVar 4)) (dBin ixO (dVar 6) (dC (.int 0)))) (dCons (dVar 3) dNil))) (dBin ixO (dVar 1) (dVar 4)) (dBin ixO (dVar 6) (dC (.int 0))))
    (dSet 4 (dBin addO (dVar 4) (dC (.int 1))))))))
noncomputable def L1_law_tableau : Sig → AH → Out := (dSeq (dAsg (.tp [(.nm 3), (.nm 4)]) (dTup (dCons (dVar 2) (dCons (dC (.int 0)) dNil))))
    (dFor (dRng1 (dCons (dBin addO (dApp lenO (dCons (dVar 1) dNil)) (dC (.int 1))) dNil)) (.nm 5) L0_law_tableau))
noncomputable def b_law_tableau_ : Sig → AH → Out := (dSeq (dSet 1 (dNest (dLstK dNil)))
    (dSeq (dFor (dSeqI (dUn revO (dVar 0))) (.nm 2) L1_law_tableau)
    (dRet (dVar 1))))
noncomputable def d_law_tableau : List DV → AH → Res DV := dDef 8 1 false b_law_tableau_
abbrev s_law_stepped : Stmt := topS 31
theorem sc_law_stepped : FnScope ["word", "i", "up", "low", "high", "k", "places", "at"] ["word", "i", "up"] (defScope s_law_stepped) := ⟨rfl, rfl, rfl, by decide +kernel, rfl, by decide +kernel, by decide +kernel⟩
noncomputable def L0_law_stepped : Sig → AH → Out := (dIf (blOf (dBin eqO (dBin ixO (dVar 0) (dVar 5)) (dVar 1))) (dDrop (dMeth appendM (dVar 3) (dCons (dVar 5) dNil))) (dIf (blOf (dBin eqO (dBin ixO (dVar 0) (dVar 5)) (dBin addO (dVar 1) (dC (.int 1))))) (dIf (blOf (dBin gtO (dApp lenO (dCons (dVar 3) dNil)) (dC (.int 0)))) (dDrop (dMeth0 popM (dVar 3))) (dDrop (dMeth appendM (dVar 4) (dCons (dVar 5) dNil)))) dPass))
noncomputable def b_law_stepped_ : Sig → AH → Out := (dSeq (dPar 3 4 (dCons (dCell (dLst dNil)) (dCons (dCell (dLst dNil)) dNil)))
    (dSeq (dFor (dRng1 (dCons (dApp lenO (dCons (dVar 0) dNil)) dNil)) (.nm 5) L0_law_stepped)
    (dSeq (dSet 6 (dIte (dTru (dVar 2)) (dSl (dVar 4) (dPart (dUn negO (dC (.int 1)))) dNoPart) (dSl (dVar 3) dNoPart (dPart (dC (.int 1))))))
    (dSeq (dIf (blOf (dBin eqO (dApp lenO (dCons (dVar 6) dNil)) (dC (.int 0)))) (dRet (dC .non)) dPass)
    (dSeq (dSet 7 (dBin ixO (dVar 6) (dC (.int 0))))
    (dRet (dBin addO (dBin addO (dSl (dVar 0) dNoPart (dPart (dVar 7))) (dTup (dCons (dIte (dTru (dVar 2)) (dVar 1) (dBin addO (dVar 1) (dC (.int 1)))) dNil))) (dSl (dVar 0) (dPart (dBin addO (dVar 7) (dC (.int 1)))) dNoPart))))))))
noncomputable def d_law_stepped : List DV → AH → Res DV := dDef 8 3 false b_law_stepped_
abbrev s_law : Stmt := topS 32
theorem sc_law : FnScope ["script", "state", "s", "x", "colour", "p", "turn", "l", "ahead", "run", "i", "up", "one", "two", "other", "k", "told"] ["script"] (defScope s_law) := ⟨rfl, rfl, rfl, by decide +kernel, rfl, by decide +kernel, by decide +kernel⟩
noncomputable def L0_law : Sig → AH → Out := (dSeq (dPar 7 8 (dCons (dCall d_law_room (dCons (dVar 1) dNil)) (dCons (dBin gtO (dCall d_law_take (dCons (dVar 1) (dCons (dC (.int 3)) dNil))) (dC (.int 0))) dNil)))
    (dSeq (dSet 9 (dIte (dTru (dVar 8)) (dCall (d_law_plain 8) (dCons (dCall d_carried (dCons (dVar 2) (dCons (dVar 7) dNil))) dNil)) (dCall (d_law_plain 8) (dCons (dCall d_carried_back (dCons (dVar 2) (dCons (dVar 7) dNil))) dNil))))
    (dSeq (dIf (blOf (dBin neO (dCall d_law_tableau (dCons (dCall (d_law_plain 8) (dCons (dCall d_colours_of (dCons (dVar 9) dNil)) dNil)) dNil)) (dVar 5))) (dRet (dC (.bl false))) dPass)
    (dSeq (dPar 10 11 (dCons (dBin addO (dC (.int 1)) (dCall d_law_take (dCons (dVar 1) (dCons (dC (.int 2)) dNil)))) (dCons (dBin eqO (dCall d_law_take (dCons (dVar 1) (dCons (dC (.int 2)) dNil))) (dC (.int 0))) dNil)))
    (dSeq (dAsg (.tp [(.nm 12), (.nm 13)]) (dTup (dCons (dCall d_law_stepped (dCons (dCall (d_law_plain 8) (dCons (dCall d_colours_of (dCons (dVar 2) dNil)) dNil)) (dCons (dVar 10) (dCons (dVar 11) dNil)))) (dCons (dCall d_law_stepped (dCons (dCall (d_law_plain 8) (dCons (dCall d_colours_of (dCons (dVar 9) dNil)) dNil)) (dCons (dVar 10) (dCons (dVar 11) dNil)))) dNil))))
    (dSeq (dIf (blOf (dBin neO (dBin isO (dVar 12) (dC .non)) (dBin isO (dVar 13) (dC .non)))) (dRet (dC (.bl false))) dPass)
    (dSeq (dIf (blOf (dBin isNotO (dVar 12) (dC .non))) (dSeq (dSet 14 (dApp tupleO (dCons (dVal (dLc (dRng1 (dCons (dApp lenO (dCons (dVar 2) dNil)) dNil)) (.nm 15) dYes (dTup (dCons (dBin ixO (dBin ixO (dVar 2) (dVar 15)) (dC (.int 0))) (dCons (dBin ixO (dVar 12) (dVar 15)) dNil))) [15])) dNil)))
    (dSeq (dSet 16 (dIte (dTru (dVar 8)) (dCall (d_law_plain 8) (dCons (dCall d_carried (dCons (dVar 14) (dCons (dVar 7) dNil))) dNil)) (dCall (d_law_plain 8) (dCons (dCall d_carried_back (dCons (dVar 14) (dCons (dVar 7) dNil))) dNil))))
    (dIf (blOf (dBin neO (dVar 16) (dApp tupleO (dCons (dVal (dLc (dRng1 (dCons (dApp lenO (dCons (dVar 9) dNil)) dNil)) (.nm 15) dYes (dTup (dCons (dBin ixO (dBin ixO (dVar 9) (dVar 15)) (dC (.int 0))) (dCons (dBin ixO (dVar 13) (dVar 15)) dNil))) [15])) dNil)))) (dRet (dC (.bl false))) dPass))) dPass)
    (dSet 2 (dVar 9)))))))))
noncomputable def b_law_ : Sig → AH → Out := (dSeq (dSet 1 (dCall d_law_state (dCons (dVar 0) dNil)))
    (dSeq (dSet 2 (dCall d_law_standing (dCons (dVar 1) (dCons (dC (.int 12)) dNil))))
    (dSeq (dIf (dAnd (blOf (dBin gtO (dApp lenO (dCons (dVar 2) dNil)) (dC (.int 0)))) (blOf (dBin gtO (dApp absO (dCons (dBin ixO (dBin ixO (dVar 2) (dC (.int 0))) (dC (.int 0))) dNil)) (dBin powO (dC (.int 10)) (dC (.int 11)))))) (dSet 2 (dApp tupleO (dCons (dVal (dLc (dSeqI (dVar 2)) (.tp [(.nm 3), (.nm 4)]) dYes (dTup (dCons (dBin subO (dVar 3) (dBin ixO (dBin ixO (dVar 2) (dC (.int 0))) (dC (.int 0)))) (dCons (dVar 4) dNil))) [3, 4])) dNil))) dPass)
    (dSeq (dSet 5 (dCall d_law_tableau (dCons (dCall (d_law_plain 8) (dCons (dCall d_colours_of (dCons (dVar 2) dNil)) dNil)) dNil)))
    (dSeq (dFor (dRng1 (dCons (dBin addO (dC (.int 1)) (dCall d_law_take (dCons (dVar 1) (dCons (dC (.int 5)) dNil)))) dNil)) (.nm 6) L0_law)
    (dRet (dC (.bl true))))))))
noncomputable def d_law : List DV → AH → Res DV := dDef 17 1 false b_law_
structure Txt (P : Program) (K : PySem.W.Frag) (mg : Str → Option Value) where
  a_is_integer : Addr
  d_is_integer : FuncData
  F_is_integer : Fun K "is_integer" "is_integer" s_is_integer a_is_integer d_is_integer
  b_is_integer : Binds K d_is_integer ["value"] []
  m_is_integer : mg "is_integer" = some (.ref a_is_integer)
  a_is_ball : Addr
  d_is_ball : FuncData
  F_is_ball : Fun K "is_ball" "is_ball" s_is_ball a_is_ball d_is_ball
  b_is_ball : Binds K d_is_ball ["value"] []
  m_is_ball : mg "is_ball" = some (.ref a_is_ball)
  a_is_standing : Addr
  d_is_standing : FuncData
  F_is_standing : Fun K "is_standing" "is_standing" s_is_standing a_is_standing d_is_standing
  b_is_standing : Binds K d_is_standing ["value"] []
  m_is_standing : mg "is_standing" = some (.ref a_is_standing)
  a_check_standing : Addr
  d_check_standing : FuncData
  F_check_standing : Fun K "check_standing" "check_standing" s_check_standing a_check_standing d_check_standing
  b_check_standing : Binds K d_check_standing ["s"] []
  m_check_standing : mg "check_standing" = some (.ref a_check_standing)
  a_colours_of : Addr
  d_colours_of : FuncData
  F_colours_of : Fun K "colours_of" "colours_of" s_colours_of a_colours_of d_colours_of
  b_colours_of : Binds K d_colours_of ["s"] []
  m_colours_of : mg "colours_of" = some (.ref a_colours_of)
  a_is_room : Addr
  d_is_room : FuncData
  F_is_room : Fun K "is_room" "is_room" s_is_room a_is_room d_is_room
  b_is_room : Binds K d_is_room ["value"] []
  m_is_room : mg "is_room" = some (.ref a_is_room)
  a_check_room : Addr
  d_check_room : FuncData
  F_check_room : Fun K "check_room" "check_room" s_check_room a_check_room d_check_room
  b_check_room : Binds K d_check_room ["l"] []
  m_check_room : mg "check_room" = some (.ref a_check_room)
  a_held_letters : Addr
  d_held_letters : FuncData
  F_held_letters : Fun K "held_letters" "held_letters" s_held_letters a_held_letters d_held_letters
  b_held_letters : Binds K d_held_letters ["held"] []
  m_held_letters : mg "held_letters" = some (.ref a_held_letters)
  a_laid_down : Addr
  d_laid_down : FuncData
  F_laid_down : Fun K "laid_down" "laid_down" s_laid_down a_laid_down d_laid_down
  b_laid_down : Binds K d_laid_down ["held", "letter"] []
  m_laid_down : mg "laid_down" = some (.ref a_laid_down)
  a_laid_back : Addr
  d_laid_back : FuncData
  F_laid_back : Fun K "laid_back" "laid_back" s_laid_back a_laid_back d_laid_back
  b_laid_back : Binds K d_laid_back ["held", "letter"] []
  m_laid_back : mg "laid_back" = some (.ref a_laid_back)
  a_visited : Addr
  d_visited : FuncData
  F_visited : Fun K "visited" "visited" s_visited a_visited d_visited
  b_visited : Binds K d_visited ["s", "l", "step"] []
  m_visited : mg "visited" = some (.ref a_visited)
  a_run_once : Addr
  d_run_once : FuncData
  F_run_once : Fun K "run_once" "run_once" s_run_once a_run_once d_run_once
  b_run_once : Binds K d_run_once ["s", "l"] []
  m_run_once : mg "run_once" = some (.ref a_run_once)
  a_carried : Addr
  d_carried : FuncData
  F_carried : Fun K "carried" "carried" s_carried a_carried d_carried
  b_carried : Binds K d_carried ["s", "l"] []
  m_carried : mg "carried" = some (.ref a_carried)
  a_run_back : Addr
  d_run_back : FuncData
  F_run_back : Fun K "run_back" "run_back" s_run_back a_run_back d_run_back
  b_run_back : Binds K d_run_back ["s", "l"] []
  m_run_back : mg "run_back" = some (.ref a_run_back)
  a_carried_back : Addr
  d_carried_back : FuncData
  F_carried_back : Fun K "carried_back" "carried_back" s_carried_back a_carried_back d_carried_back
  b_carried_back : Binds K d_carried_back ["s", "l"] []
  m_carried_back : mg "carried_back" = some (.ref a_carried_back)
  a_law_state : Addr
  d_law_state : FuncData
  F_law_state : Fun K "_law_state" "_law_state" s_law_state a_law_state d_law_state
  b_law_state : Binds K d_law_state ["script"] []
  m_law_state : mg "_law_state" = some (.ref a_law_state)
  a_law_take : Addr
  d_law_take : FuncData
  F_law_take : Fun K "_law_take" "_law_take" s_law_take a_law_take d_law_take
  b_law_take : Binds K d_law_take ["state", "m"] []
  m_law_take : mg "_law_take" = some (.ref a_law_take)
  a_law_plain : Addr
  d_law_plain : FuncData
  F_law_plain : Fun K "_law_plain" "_law_plain" s_law_plain a_law_plain d_law_plain
  b_law_plain : Binds K d_law_plain ["value"] []
  m_law_plain : mg "_law_plain" = some (.ref a_law_plain)
  a_law_standing : Addr
  d_law_standing : FuncData
  F_law_standing : Fun K "_law_standing" "_law_standing" s_law_standing a_law_standing d_law_standing
  b_law_standing : Binds K d_law_standing ["state", "most"] []
  m_law_standing : mg "_law_standing" = some (.ref a_law_standing)
  a_law_room : Addr
  d_law_room : FuncData
  F_law_room : Fun K "_law_room" "_law_room" s_law_room a_law_room d_law_room
  b_law_room : Binds K d_law_room ["state"] []
  m_law_room : mg "_law_room" = some (.ref a_law_room)
  a_law_tableau : Addr
  d_law_tableau : FuncData
  F_law_tableau : Fun K "_law_tableau" "_law_tableau" s_law_tableau a_law_tableau d_law_tableau
  b_law_tableau : Binds K d_law_tableau ["word"] []
  m_law_tableau : mg "_law_tableau" = some (.ref a_law_tableau)
  a_law_stepped : Addr
  d_law_stepped : FuncData
  F_law_stepped : Fun K "_law_stepped" "_law_stepped" s_law_stepped a_law_stepped d_law_stepped
  b_law_stepped : Binds K d_law_stepped ["word", "i", "up"] []
  m_law_stepped : mg "_law_stepped" = some (.ref a_law_stepped)
  a_law : Addr
  d_law : FuncData
  F_law : Fun K "law" "law" s_law a_law d_law
  b_law : Binds K d_law ["script"] []
  m_law : mg "law" = some (.ref a_law)
  k_visited : Addr
  p_visited : Addr
  C_visited : FunC K "visited" "visited" s_visited a_visited d_visited k_visited
  h_visited : PySem.W.codeHdIn K k_visited p_visited = true
  n_visited : K.lookup p_visited = none
  z_abs : mg "abs" = none
  z_all : mg "all" = none
  z_bool : mg "bool" = none
  z_int : mg "int" = none
  z_isinstance : mg "isinstance" = none
  z_len : mg "len" = none
  z_range : mg "range" = none
  z_str : mg "str" = none
  z_tuple : mg "tuple" = none
  t_FAR : Tok
  c_FAR : mg "FAR" = some (.int 1000000000000 t_FAR)
  t_MOST_BALLS : Tok
  c_MOST_BALLS : mg "MOST_BALLS" = some (.int 12 t_MOST_BALLS)
  t_MOST_ROOM : Tok
  c_MOST_ROOM : mg "MOST_ROOM" = some (.int 1000 t_MOST_ROOM)
  a_Malformed : Addr
  m_Malformed : mg "Malformed" = some (.ref a_Malformed)
  x_Malformed : PySem.W.excIn K a_Malformed [.type "ValueError", .type "Exception", .type "BaseException", .type "object"] "ValueError.__new__" = true
  k_Malformed : PySem.W.keepIn K (.ref a_Malformed) = true
  xb_Malformed : PySem.W.subIn K (.ref a_Malformed) (.type "BaseException") = some true
  xt_Malformed : PySem.W.typeIn K (.ref a_Malformed) = some (.type "type")
theorem ok_is_integer {P : Program} {w : World} {K : PySem.W.Frag} {mg : Str → Option Value} {base : Heap} (T : Txt P K mg) (B : LamX.TabB base mg T.k_visited T.p_visited) : FnOk P w K mg base (L2.CX P w) 1 T.a_is_integer T.d_is_integer ["value"] (spD ⟨K, mg⟩ d_is_integer) :=
  def_ok (k := 0) T.F_is_integer sc_is_integer rfl rfl fun cdv A outer s H E hr g =>
    (dss_one (ds_ret (de_and (de_isi (by decide +kernel) (by rfl) T.z_isinstance (by rfl) T.z_int b_int (de_var 0)) (de_one (de_not (de_isi (by decide +kernel) (by rfl) T.z_isinstance (by rfl) T.z_bool b_bool (de_var 0)))))))
theorem ok_is_ball {P : Program} {w : World} {K : PySem.W.Frag} {mg : Str → Option Value} {base : Heap} (T : Txt P K mg) (B : LamX.TabB base mg T.k_visited T.p_visited) : FnOk P w K mg base (L2.CX P w) 2 T.a_is_ball T.d_is_ball ["value"] (spD ⟨K, mg⟩ d_is_ball) :=
  def_ok (k := 1) T.F_is_ball sc_is_ball rfl rfl fun cdv A outer s H E hr g =>
    (dss_cons (ds_if (dt_w (dw_or (dt_not (dt_tru (de_isi (by decide +kernel) (by rfl) T.z_isinstance (by rfl) T.z_tuple b_tuple (de_var 0)))) (dw_or (dt_cmp (ow_ne hr.units) (de_callB ow_len (by rfl) T.z_len b_len (da_cons (de_var 0) da_nil)) de_int (nomark _)) (dw_or (dt_not (dt_tru (de_call g ((ok_is_integer T B).mono (by decide)) hr (by rfl) T.m_is_integer T.F_is_integer.kp T.b_is_integer (da_cons (de_ix (de_var 0) de_int (fun _ _ => rfl)) da_nil)))) (dw_or1 (dt_not (dt_tru (de_call g ((ok_is_integer T B).mono (by decide)) hr (by rfl) T.m_is_integer T.F_is_integer.kp T.b_is_integer (da_cons (de_ix (de_var 0) de_int (fun _ _ => rfl)) da_nil))))))))) (dss_one (ds_ret de_bl)) dss_nil)
    (dss_one (ds_ret (de_and (de_cmp ow_le (de_callB ow_abs (by rfl) T.z_abs b_abs (da_cons (de_ix (de_var 0) de_int (fun _ _ => rfl)) da_nil)) (de_gint (by rfl) T.c_FAR) (nomark _)) (de_one (de_chain ow_le ow_le de_int (de_ix (de_var 0) de_int (fun _ _ => rfl)) de_int))))))
theorem ok_is_standing {P : Program} {w : World} {K : PySem.W.Frag} {mg : Str → Option Value} {base : Heap} (T : Txt P K mg) (B : LamX.TabB base mg T.k_visited T.p_visited) : FnOk P w K mg base (L2.CX P w) 3 T.a_is_standing T.d_is_standing ["value"] (spD ⟨K, mg⟩ d_is_standing) :=
  def_ok (k := 2) T.F_is_standing sc_is_standing rfl rfl fun cdv A outer s H E hr g =>
    (dss_cons (ds_if (dt_w (dw_or (dt_not (dt_tru (de_isi (by decide +kernel) (by rfl) T.z_isinstance (by rfl) T.z_tuple b_tuple (de_var 0)))) (dw_or (dt_cmp ow_gt (de_callB ow_len (by rfl) T.z_len b_len (da_cons (de_var 0) da_nil)) (de_gint (by rfl) T.c_MOST_BALLS) (nomark _)) (dw_or1 (dt_not (dt_tru (de_callB (ow_all rfl) (by rfl) T.z_all b_all (da_cons (de_val (fe_lc g sc_is_standing.nd (di_seq (de_var 0)) (blkOk_by (own := [("ball", 1)]) (by kernel_rfl)) (fun _ _ _ _ _ => (dg_nm sc_is_standing.nd rfl (by first | exact Or.inl rfl | exact Or.inr rfl))) (fun _ _ _ _ _ => dts_nil) (fun _ _ _ _ _ => (de_call (Gd.blk g _ _ _ _ _) ((ok_is_ball T B).mono (by decide)) hr (by rfl) T.m_is_ball T.F_is_ball.kp T.b_is_ball (da_cons (de_var 1) da_nil))) (by decide))) da_nil)))))))) (dss_one (ds_ret de_bl)) dss_nil)
    (dss_one (ds_ret (de_callB (ow_all rfl) (by rfl) T.z_all b_all (da_cons (de_val (fe_lc g sc_is_standing.nd (di_rng2 (by rfl) T.z_range (da_cons de_int (da_cons (de_callB ow_len (by rfl) T.z_len b_len (da_cons (de_var 0) da_nil)) da_nil))) (blkOk_by (own := [("k", 2)]) (by kernel_rfl)) (fun _ _ _ _ _ => (dg_nm sc_is_standing.nd rfl (by first | exact Or.inl rfl | exact Or.inr rfl))) (fun _ _ _ _ _ => dts_nil) (fun _ _ _ _ _ => (de_cmp ow_lt (de_ix (de_ix (de_var 0) (de_bin ow_sub (de_var 2) de_int) (fun _ _ => rfl)) de_int (fun _ _ => rfl)) (de_ix (de_ix (de_var 0) (de_var 2) (fun _ _ => rfl)) de_int (fun _ _ => rfl)) (nomark _))) (by decide))) da_nil)))))
theorem ok_check_standing {P : Program} {w : World} {K : PySem.W.Frag} {mg : Str → Option Value} {base : Heap} (T : Txt P K mg) (B : LamX.TabB base mg T.k_visited T.p_visited) : FnOk P w K mg base (L2.CX P w) 4 T.a_check_standing T.d_check_standing ["s"] (spD ⟨K, mg⟩ d_check_standing) :=
  def_ok (k := 3) T.F_check_standing sc_check_standing rfl rfl fun cdv A outer s H E hr g =>
    (dss_one (ds_if (dt_not (dt_tru (de_call g ((ok_is_standing T B).mono (by decide)) hr (by rfl) T.m_is_standing T.F_is_standing.kp T.b_is_standing (da_cons (de_var 0) da_nil)))) (dss_one (ds_raise g (pmk_own PySem.F.excBase_ValueError T.x_Malformed T.m_Malformed T.k_Malformed (raises_own T.xb_Malformed T.xt_Malformed) rfl) T.m_Malformed)) dss_nil))
theorem ok_colours_of {P : Program} {w : World} {K : PySem.W.Frag} {mg : Str → Option Value} {base : Heap} (T : Txt P K mg) (B : LamX.TabB base mg T.k_visited T.p_visited) : FnOk P w K mg base (L2.CX P w) 5 T.a_colours_of T.d_colours_of ["s"] (spD ⟨K, mg⟩ d_colours_of) :=
  def_ok (k := 4) T.F_colours_of sc_colours_of rfl rfl fun cdv A outer s H E hr g =>
    (dss_cons (ds_expr (de_call g ((ok_check_standing T B).mono (by decide)) hr (by rfl) T.m_check_standing T.F_check_standing.kp T.b_check_standing (da_cons (de_var 0) da_nil)))
    (dss_one (ds_ret (de_callTy ow_tuple (by rfl) T.z_tuple b_tuple (da_cons (de_val (fe_lc g sc_colours_of.nd (di_seq (de_var 0)) (blkOk_by (own := [("place", 1), ("colour", 2)]) (by kernel_rfl)) (fun _ _ _ _ _ => (dg_tp rfl (dgs_cons (dg_nm sc_colours_of.nd rfl (by first | exact Or.inl rfl | exact Or.inr rfl)) (dgs_cons (dg_nm sc_colours_of.nd rfl (by first | exact Or.inl rfl | exact Or.inr rfl)) dgs_nil)))) (fun _ _ _ _ _ => dts_nil) (fun _ _ _ _ _ => (de_var 2)) (by decide))) da_nil)))))
theorem ok_is_room {P : Program} {w : World} {K : PySem.W.Frag} {mg : Str → Option Value} {base : Heap} (T : Txt P K mg) (B : LamX.TabB base mg T.k_visited T.p_visited) : FnOk P w K mg base (L2.CX P w) 2 T.a_is_room T.d_is_room ["value"] (spD ⟨K, mg⟩ d_is_room) :=
  def_ok (k := 1) T.F_is_room sc_is_room rfl rfl fun cdv A outer s H E hr g =>
    (dss_one (ds_ret (de_and (de_call g ((ok_is_integer T B).mono (by decide)) hr (by rfl) T.m_is_integer T.F_is_integer.kp T.b_is_integer (da_cons (de_var 0) da_nil)) (de_one (de_chain ow_le ow_le de_int (de_var 0) (de_gint (by rfl) T.c_MOST_ROOM))))))
theorem ok_check_room {P : Program} {w : World} {K : PySem.W.Frag} {mg : Str → Option Value} {base : Heap} (T : Txt P K mg) (B : LamX.TabB base mg T.k_visited T.p_visited) : FnOk P w K mg base (L2.CX P w) 3 T.a_check_room T.d_check_room ["l"] (spD ⟨K, mg⟩ d_check_room) :=
  def_ok (k := 2) T.F_check_room sc_check_room rfl rfl fun cdv A outer s H E hr g =>
    (dss_one (ds_if (dt_not (dt_tru (de_call g ((ok_is_room T B).mono (by decide)) hr (by rfl) T.m_is_room T.F_is_room.kp T.b_is_room (da_cons (de_var 0) da_nil)))) (dss_one (ds_raise g (pmk_own PySem.F.excBase_ValueError T.x_Malformed T.m_Malformed T.k_Malformed (raises_own T.xb_Malformed T.xt_Malformed) rfl) T.m_Malformed)) dss_nil))
theorem ok_held_letters {P : Program} {w : World} {K : PySem.W.Frag} {mg : Str → Option Value} {base : Heap} (T : Txt P K mg) (B : LamX.TabB base mg T.k_visited T.p_visited) : FnOk P w K mg base (L2.CX P w) 1 T.a_held_letters T.d_held_letters ["held"] (spD ⟨K, mg⟩ d_held_letters) :=
  def_ok (k := 0) T.F_held_letters sc_held_letters rfl rfl fun cdv A outer s H E hr g =>
    (dss_one (ds_ret (de_val (fe_lc g sc_held_letters.nd (di_rng1 (by rfl) T.z_range (da_cons de_int da_nil)) (blkOk_by (own := [("letter", 1)]) (by kernel_rfl)) (fun _ _ _ _ _ => (dg_nm sc_held_letters.nd rfl (by first | exact Or.inl rfl | exact Or.inr rfl))) (fun _ _ _ _ _ => (dts_one (dt_cmp ow_gt (de_ix (de_var 0) (de_var 1) (fun _ _ => rfl)) de_int (nomark _)))) (fun _ _ _ _ _ => (de_var 1)) (by decide)))))
theorem ok_laid_down {P : Program} {w : World} {K : PySem.W.Frag} {mg : Str → Option Value} {base : Heap} (T : Txt P K mg) (B : LamX.TabB base mg T.k_visited T.p_visited) : FnOk P w K mg base (L2.CX P w) 2 T.a_laid_down T.d_laid_down ["held", "letter"] (spD ⟨K, mg⟩ d_laid_down) :=
  def_ok (k := 1) T.F_laid_down sc_laid_down rfl rfl fun cdv A outer s H E hr g =>
    (dss_cons (ds_setLcV (i := 2) g sc_laid_down.nd rfl rfl (sw_true rfl rfl rfl (by decide +kernel)) (di_seq (de_call g ((ok_held_letters T B).mono (by decide)) hr (by rfl) T.m_held_letters T.F_held_letters.kp T.b_held_letters (da_cons (de_var 0) da_nil))) (blkOk_by (own := [("a", 3)]) (by kernel_rfl)) (fun _ _ _ _ _ => (dg_nm sc_laid_down.nd rfl (by first | exact Or.inl rfl | exact Or.inr rfl))) (fun _ _ _ _ _ => (dts_one (dt_cmp ow_lt (de_var 3) (de_var 1) (nomark _)))) (fun _ _ _ _ _ => (de_var 3)) (by decide))
    (dss_cons (ds_if (dt_cmp ow_gt (de_callB ow_len (by rfl) T.z_len b_len (da_cons (de_var 2) da_nil)) de_int (nomark _)) (dss_one (ds_ret (de_ix (de_var 2) (de_un ow_neg de_int) (fun _ _ => rfl)))) dss_nil)
    (dss_one (ds_ret (de_ix (de_call g ((ok_held_letters T B).mono (by decide)) hr (by rfl) T.m_held_letters T.F_held_letters.kp T.b_held_letters (da_cons (de_var 0) da_nil)) (de_un ow_neg de_int) (fun _ _ => rfl))))))
theorem ok_laid_back {P : Program} {w : World} {K : PySem.W.Frag} {mg : Str → Option Value} {base : Heap} (T : Txt P K mg) (B : LamX.TabB base mg T.k_visited T.p_visited) : FnOk P w K mg base (L2.CX P w) 2 T.a_laid_back T.d_laid_back ["held", "letter"] (spD ⟨K, mg⟩ d_laid_back) :=
  def_ok (k := 1) T.F_laid_back sc_laid_back rfl rfl fun cdv A outer s H E hr g =>
    (dss_cons (ds_setLcV (i := 2) g sc_laid_back.nd rfl rfl (sw_true rfl rfl rfl (by decide +kernel)) (di_seq (de_call g ((ok_held_letters T B).mono (by decide)) hr (by rfl) T.m_held_letters T.F_held_letters.kp T.b_held_letters (da_cons (de_var 0) da_nil))) (blkOk_by (own := [("a", 3)]) (by kernel_rfl)) (fun _ _ _ _ _ => (dg_nm sc_laid_back.nd rfl (by first | exact Or.inl rfl | exact Or.inr rfl))) (fun _ _ _ _ _ => (dts_one (dt_cmp ow_gt (de_var 3) (de_var 1) (nomark _)))) (fun _ _ _ _ _ => (de_var 3)) (by decide))
    (dss_cons (ds_if (dt_cmp ow_gt (de_callB ow_len (by rfl) T.z_len b_len (da_cons (de_var 2) da_nil)) de_int (nomark _)) (dss_one (ds_ret (de_ix (de_var 2) de_int (fun _ _ => rfl)))) dss_nil)
    (dss_one (ds_ret (de_ix (de_call g ((ok_held_letters T B).mono (by decide)) hr (by rfl) T.m_held_letters T.F_held_letters.kp T.b_held_letters (da_cons (de_var 0) da_nil)) de_int (fun _ _ => rfl))))))
theorem nok_visited_visit {P : Program} {w : World} {K : PySem.W.Frag} {mg : Str → Option Value} {base : Heap} (T : Txt P K mg) (B : LamX.TabB base mg T.k_visited T.p_visited) (q : Str) (cl : List (Str × Addr)) (c f : Addr) : NdefX.NOk P w K mg base (L2.CX P w) 3 f (NdefX.NF.of s_visited_visit "visit" q cl c) ["letter"] ["choice", "held", "found", "x"] (spN ⟨K, mg⟩ d_visited_visit f) :=
  loc_ok (F := NdefX.NF.of s_visited_visit "visit" q cl c) (k := 2) sc_visited_visit (fun _ _ _ us hl => match us, hl with | [_], _ => rfl) rfl rfl rfl fun A outer s H E hr g =>
    (dss_cons (ds_set (i := 5) sc_visited_visit.nd rfl (by first | exact Or.inl rfl | exact Or.inr rfl) (de_callTy ow_tuple (by rfl) T.z_tuple b_tuple (da_cons (de_sl (de_var 2) (dp_some de_int) dp_none) da_nil)))
    (dss_cons (ds_set (i := 6) sc_visited_visit.nd rfl (by first | exact Or.inl rfl | exact Or.inr rfl) (de_callV g (.cons ((ok_laid_down T B).mono (by decide)) hr T.m_laid_down T.F_laid_down.kp T.b_laid_down (.cons ((ok_laid_back T B).mono (by decide)) hr T.m_laid_back T.F_laid_back.kp T.b_laid_back .nil)) (de_var 1) (da_cons (de_var 2) (da_cons (de_var 0) da_nil))))
    (dss_cons (ds_augS (de_var 2) (de_var 6) de_int ow_isub)
    (dss_cons (ds_augS (de_var 2) (de_var 0) de_int ow_iadd)
    (dss_one (ds_expr (de_meth PySem.F.slot_list_append PySem.F.type_list_append ow_append (de_var 3) (da_cons (de_tup (da_cons (de_var 4) (da_cons (de_var 0) (da_cons (de_var 6) (da_cons (de_var 5) da_nil))))) da_nil))))))))
theorem ok_visited {P : Program} {w : World} {K : PySem.W.Frag} {mg : Str → Option Value} {base : Heap} (T : Txt P K mg) (B : LamX.TabB base mg T.k_visited T.p_visited) : FnOk P w K mg base (L2.CX P w) 4 T.a_visited T.d_visited ["s", "l", "step"] (spD ⟨K, mg⟩ d_visited) :=
  def_okC (k := 3) T.C_visited sc_visited rfl rfl fun A outer s H E hr g =>
    (dss_cons (ds_set (i := 3) sc_visited.nd rfl (by first | exact Or.inl rfl | exact Or.inr rfl) (de_ite (dt_cmp ow_gt (de_var 2) de_int (nomark _)) (de_glob (by rfl) T.m_laid_down) (de_glob (by rfl) T.m_laid_back)))
    (dss_cons (ds_set (i := 4) sc_visited.nd rfl (by first | exact Or.inl rfl | exact Or.inr rfl) (de_cell (fe_lst (da_cons (de_var 1) (da_cons de_int (da_cons de_int (da_cons de_int da_nil)))))))
    (dss_cons (ds_set (i := 5) sc_visited.nd rfl (by first | exact Or.inl rfl | exact Or.inr rfl) (de_cell (fe_lst da_nil)))
    (dss_cons (ds_set (i := 6) sc_visited.nd rfl (by first | exact Or.inl rfl | exact Or.inr rfl) de_int)
    (dss_ndef (f := T.a_visited) (ps_ndefPS (st := s_visited_visit) (q := "visited.<locals>.visit") (c := T.k_visited) (P := T.p_visited) (i := 7) rfl B rfl rfl (NdefX.ndef_free nb_visited_visit) rfl rfl rfl sc_visited.nd rfl (Or.inl rfl) (Or.inr rfl))
    (dsfs_cons (dsf_for g (di_seq (de_step (de_var 0) (de_var 2))) (dg_tp rfl (dgs_cons (dg_nm sc_visited.nd rfl (by first | exact Or.inl rfl | exact Or.inr rfl)) (dgs_cons (dg_nm sc_visited.nd rfl (by first | exact Or.inl rfl | exact Or.inr rfl)) dgs_nil))) (dsfs_cons (dsf_while g (dt_w (dw_and (dt_cmp ow_lt (de_ix (de_var 4) de_int (fun _ _ => rfl)) (de_var 1) (nomark _)) (dw_and1 (dt_cmp (ow_ne hr.units) (de_var 6) (de_var 8) (nomark _))))) (dsfs_cons (dsf_expr (pe_callN (js := [3, 4, 5, 6]) g (fun f c' => nok_visited_visit T B _ _ c' f) (fun _ => rfl) (fun _ => rfl) (fun ok => NdefX.Caps.made ok (NdefX.ndef_free nb_visited_visit) (NdefX.ndef_fr nb_visited_visit) rfl) hr (by decide) (by rfl) (Or.inl rfl) (da_cons de_int da_nil)))
    (dsfs_one (dsf_of (ds_aug sc_visited.nd rfl (by first | exact Or.inl rfl | exact Or.inr rfl) (de_var 2) ow_iadd) (by first | exact kp_ret | exact kp_drop | exact kp_pass | exact kp_set (by decide) | exact kp_aug (by decide))))))
    (dsfs_cons (dsf_of (ds_set (i := 6) sc_visited.nd rfl (by first | exact Or.inl rfl | exact Or.inr rfl) (de_var 8)) (by first | exact kp_ret | exact kp_drop | exact kp_pass | exact kp_set (by decide) | exact kp_aug (by decide)))
    (dsfs_cons (dsf_expr (pe_callN (js := [3, 4, 5, 6]) g (fun f c' => nok_visited_visit T B _ _ c' f) (fun _ => rfl) (fun _ => rfl) (fun ok => NdefX.Caps.made ok (NdefX.ndef_free nb_visited_visit) (NdefX.ndef_fr nb_visited_visit) rfl) hr (by decide) (by rfl) (Or.inl rfl) (da_cons (de_var 9) da_nil)))
    (dsfs_one (dsf_of (ds_aug sc_visited.nd rfl (by first | exact Or.inl rfl | exact Or.inr rfl) (de_var 2) ow_iadd) (by first | exact kp_ret | exact kp_drop | exact kp_pass | exact kp_set (by decide) | exact kp_aug (by decide))))))))
    (dsfs_cons (dsf_while g (dt_cmp ow_lt (de_ix (de_var 4) de_int (fun _ _ => rfl)) (de_var 1) (nomark _)) (dsfs_cons (dsf_expr (pe_callN (js := [3, 4, 5, 6]) g (fun f c' => nok_visited_visit T B _ _ c' f) (fun _ => rfl) (fun _ => rfl) (fun ok => NdefX.Caps.made ok (NdefX.ndef_free nb_visited_visit) (NdefX.ndef_fr nb_visited_visit) rfl) hr (by decide) (by rfl) (Or.inl rfl) (da_cons de_int da_nil)))
    (dsfs_one (dsf_of (ds_aug sc_visited.nd rfl (by first | exact Or.inl rfl | exact Or.inr rfl) (de_var 2) ow_iadd) (by first | exact kp_ret | exact kp_drop | exact kp_pass | exact kp_set (by decide) | exact kp_aug (by decide))))))
    (dsfs_one (dsf_of (ds_ret (de_var 5)) (by first | exact kp_ret | exact kp_drop | exact kp_pass | exact kp_set (by decide) | exact kp_aug (by decide)))))) T.m_visited T.C_visited.look.choose_spec.1 T.C_visited.look.choose_spec.2.1 T.C_visited.look.choose_spec.2.2 T.h_visited)))))
theorem ok_run_once {P : Program} {w : World} {K : PySem.W.Frag} {mg : Str → Option Value} {base : Heap} (T : Txt P K mg) (B : LamX.TabB base mg T.k_visited T.p_visited) : FnOk P w K mg base (L2.CX P w) 5 T.a_run_once T.d_run_once ["s", "l"] (spD ⟨K, mg⟩ d_run_once) :=
  def_ok (k := 4) T.F_run_once sc_run_once rfl rfl fun cdv A outer s H E hr g =>
    (dss_one (ds_ret (de_callTy ow_tuple (by rfl) T.z_tuple b_tuple (da_cons (de_val (fe_lc g sc_run_once.nd (di_seq (de_call g ((ok_visited T B).mono (by decide)) hr (by rfl) T.m_visited T.F_visited.kp T.b_visited (da_cons (de_var 0) (da_cons (de_var 1) (da_cons de_int da_nil))))) (blkOk_by (own := [("x", 2), ("_", 3), ("out", 4)]) (by kernel_rfl)) (fun _ _ _ _ _ => (dg_tp rfl (dgs_cons (dg_nm sc_run_once.nd rfl (by first | exact Or.inl rfl | exact Or.inr rfl)) (dgs_cons (dg_nm sc_run_once.nd rfl (by first | exact Or.inl rfl | exact Or.inr rfl)) (dgs_cons (dg_nm sc_run_once.nd rfl (by first | exact Or.inl rfl | exact Or.inr rfl)) (dgs_cons (dg_nm sc_run_once.nd rfl (by first | exact Or.inl rfl | exact Or.inr rfl)) dgs_nil)))))) (fun _ _ _ _ _ => (dts_one (dt_cmp ow_gt (de_var 4) de_int (nomark _)))) (fun _ _ _ _ _ => (de_tup (da_cons (de_var 2) (da_cons (de_var 4) da_nil)))) (by decide))) da_nil))))
theorem ok_carried {P : Program} {w : World} {K : PySem.W.Frag} {mg : Str → Option Value} {base : Heap} (T : Txt P K mg) (B : LamX.TabB base mg T.k_visited T.p_visited) : FnOk P w K mg base (L2.CX P w) 6 T.a_carried T.d_carried ["s", "l"] (spD ⟨K, mg⟩ d_carried) :=
  def_ok (k := 5) T.F_carried sc_carried rfl rfl fun cdv A outer s H E hr g =>
    (dss_cons (ds_expr (de_call g ((ok_check_standing T B).mono (by decide)) hr (by rfl) T.m_check_standing T.F_check_standing.kp T.b_check_standing (da_cons (de_var 0) da_nil)))
    (dss_cons (ds_expr (de_call g ((ok_check_room T B).mono (by decide)) hr (by rfl) T.m_check_room T.F_check_room.kp T.b_check_room (da_cons (de_var 1) da_nil)))
    (dss_one (ds_ret (de_call g ((ok_run_once T B).mono (by decide)) hr (by rfl) T.m_run_once T.F_run_once.kp T.b_run_once (da_cons (de_var 0) (da_cons (de_var 1) da_nil)))))))
theorem ok_run_back {P : Program} {w : World} {K : PySem.W.Frag} {mg : Str → Option Value} {base : Heap} (T : Txt P K mg) (B : LamX.TabB base mg T.k_visited T.p_visited) : FnOk P w K mg base (L2.CX P w) 5 T.a_run_back T.d_run_back ["s", "l"] (spD ⟨K, mg⟩ d_run_back) :=
  def_ok (k := 4) T.F_run_back sc_run_back rfl rfl fun cdv A outer s H E hr g =>
    (dss_one (ds_ret (de_callTy ow_tuple (by rfl) T.z_tuple b_tuple (da_cons (de_rev (de_val (fe_lc g sc_run_back.nd (di_seq (de_call g ((ok_visited T B).mono (by decide)) hr (by rfl) T.m_visited T.F_visited.kp T.b_visited (da_cons (de_var 0) (da_cons (de_var 1) (da_cons (de_un ow_neg de_int) da_nil))))) (blkOk_by (own := [("x", 2), ("_", 3), ("out", 4)]) (by kernel_rfl)) (fun _ _ _ _ _ => (dg_tp rfl (dgs_cons (dg_nm sc_run_back.nd rfl (by first | exact Or.inl rfl | exact Or.inr rfl)) (dgs_cons (dg_nm sc_run_back.nd rfl (by first | exact Or.inl rfl | exact Or.inr rfl)) (dgs_cons (dg_nm sc_run_back.nd rfl (by first | exact Or.inl rfl | exact Or.inr rfl)) (dgs_cons (dg_nm sc_run_back.nd rfl (by first | exact Or.inl rfl | exact Or.inr rfl)) dgs_nil)))))) (fun _ _ _ _ _ => (dts_one (dt_cmp ow_gt (de_var 4) de_int (nomark _)))) (fun _ _ _ _ _ => (de_tup (da_cons (de_var 2) (da_cons (de_var 4) da_nil)))) (by decide)))) da_nil))))
theorem ok_carried_back {P : Program} {w : World} {K : PySem.W.Frag} {mg : Str → Option Value} {base : Heap} (T : Txt P K mg) (B : LamX.TabB base mg T.k_visited T.p_visited) : FnOk P w K mg base (L2.CX P w) 6 T.a_carried_back T.d_carried_back ["s", "l"] (spD ⟨K, mg⟩ d_carried_back) :=
  def_ok (k := 5) T.F_carried_back sc_carried_back rfl rfl fun cdv A outer s H E hr g =>
    (dss_cons (ds_expr (de_call g ((ok_check_standing T B).mono (by decide)) hr (by rfl) T.m_check_standing T.F_check_standing.kp T.b_check_standing (da_cons (de_var 0) da_nil)))
    (dss_cons (ds_expr (de_call g ((ok_check_room T B).mono (by decide)) hr (by rfl) T.m_check_room T.F_check_room.kp T.b_check_room (da_cons (de_var 1) da_nil)))
    (dss_one (ds_ret (de_call g ((ok_run_back T B).mono (by decide)) hr (by rfl) T.m_run_back T.F_run_back.kp T.b_run_back (da_cons (de_var 0) (da_cons (de_var 1) da_nil)))))))
theorem ok_law_state {P : Program} {w : World} {K : PySem.W.Frag} {mg : Str → Option Value} {base : Heap} (T : Txt P K mg) (B : LamX.TabB base mg T.k_visited T.p_visited) : FnOk P w K mg base (L2.CX P w) 1 T.a_law_state T.d_law_state ["script"] (spD ⟨K, mg⟩ d_law_state) :=
  def_ok (k := 0) T.F_law_state sc_law_state rfl rfl fun cdv A outer s H E hr g =>
    (dss_cons (ds_set (i := 1) sc_law_state.nd rfl (by first | exact Or.inl rfl | exact Or.inr rfl) de_int)
    (dss_cons (ds_set (i := 2) sc_law_state.nd rfl (by first | exact Or.inl rfl | exact Or.inr rfl) de_int)
    (dss_cons (ds_for g (di_seq (de_sl (de_var 0) dp_none (dp_some de_int))) (dg_nm sc_law_state.nd rfl (by first | exact Or.inl rfl | exact Or.inr rfl)) (dss_cons (ds_set (i := 1) sc_law_state.nd rfl (by first | exact Or.inl rfl | exact Or.inr rfl) (de_bin ow_add (de_bin ow_mul1 (de_var 1) de_int) (de_callB ow_abs (by rfl) T.z_abs b_abs (da_cons (de_var 3) da_nil))))
    (dss_one (ds_set (i := 2) sc_law_state.nd rfl (by first | exact Or.inl rfl | exact Or.inr rfl) (de_bin ow_mod (de_callTy ow_int (by rfl) T.z_int b_int (da_cons (de_bin ow_add (de_bin ow_mul1 (de_var 2) de_int) (de_var 3)) da_nil)) de_int)))))
    (dss_one (ds_ret (de_cell (fe_lst (da_cons (de_var 1) (da_cons (de_var 2) da_nil)))))))))
theorem ok_law_take {P : Program} {w : World} {K : PySem.W.Frag} {mg : Str → Option Value} {base : Heap} (T : Txt P K mg) (B : LamX.TabB base mg T.k_visited T.p_visited) : FnOk P w K mg base (L2.CX P w) 1 T.a_law_take T.d_law_take ["state", "m"] (spD ⟨K, mg⟩ d_law_take) :=
  def_ok (k := 0) T.F_law_take sc_law_take rfl rfl fun cdv A outer s H E hr g =>
    (dss_cons (ds_if (dt_cmp ow_gt (de_ix (de_var 0) de_int (fun _ _ => rfl)) de_int (nomark _)) (dss_cons (ds_set (i := 2) sc_law_take.nd rfl (by first | exact Or.inl rfl | exact Or.inr rfl) (de_bin ow_mod (de_callTy ow_int (by rfl) T.z_int b_int (da_cons (de_ix (de_var 0) de_int (fun _ _ => rfl)) da_nil)) (de_var 1)))
    (dss_cons (ds_sub (de_bin ow_div (de_ix (de_var 0) de_int (fun _ _ => rfl)) (de_var 1)) (de_var 0) de_int)
    (dss_one (ds_ret (de_var 2))))) dss_nil)
    (dss_cons (ds_sub (de_bin ow_mod (de_callTy ow_int (by rfl) T.z_int b_int (da_cons (de_bin ow_add (de_bin ow_mul1 (de_ix (de_var 0) de_int (fun _ _ => rfl)) de_int) de_int) da_nil)) de_int) (de_var 0) de_int)
    (dss_one (ds_ret (de_bin ow_mod (de_callTy ow_int (by rfl) T.z_int b_int (da_cons (de_bin ow_div (de_ix (de_var 0) de_int (fun _ _ => rfl)) de_int) da_nil)) (de_var 1))))))
theorem ok_law_plain {P : Program} {w : World} {K : PySem.W.Frag} {mg : Str → Option Value} {base : Heap} (T : Txt P K mg) (B : LamX.TabB base mg T.k_visited T.p_visited) : ∀ n : Nat, FnOk P w K mg base (L2.CX P w) (n + 1) T.a_law_plain T.d_law_plain ["value"] (spD ⟨K, mg⟩ (d_law_plain n))
  | 0 => fn_bad
  | n + 1 => by
    have ih : FnOk P w K mg base (L2.CX P w) (n + 1) T.a_law_plain T.d_law_plain ["value"] (spD ⟨K, mg⟩ (d_law_plain n)) := ok_law_plain T B n
    exact def_ok (k := n + 1) T.F_law_plain sc_law_plain rfl rfl fun cdv A outer s H E hr g =>
      (dss_cons (ds_if (dt_tru (de_isi (by decide +kernel) (by rfl) T.z_isinstance (by rfl) T.z_tuple b_tuple (de_var 0))) (dss_one (ds_ret (de_callTy ow_tuple (by rfl) T.z_tuple b_tuple (da_cons (de_val (fe_lc g sc_law_plain.nd (di_seq (de_var 0)) (blkOk_by (own := [("item", 1)]) (by kernel_rfl)) (fun _ _ _ _ _ => (dg_nm sc_law_plain.nd rfl (by first | exact Or.inl rfl | exact Or.inr rfl))) (fun _ _ _ _ _ => dts_nil) (fun _ _ _ _ _ => (de_call (Gd.blk g _ _ _ _ _) (ih.mono (by omega)) hr (by rfl) T.m_law_plain T.F_law_plain.kp T.b_law_plain (da_cons (de_var 1) da_nil))) (by decide))) da_nil)))) dss_nil)
    (dss_cons (ds_if (dt_w (dw_or (dt_cmp ow_is (de_var 0) de_non (nomark _)) (dw_or (dt_tru (de_isi (by decide +kernel) (by rfl) T.z_isinstance (by rfl) T.z_str b_str (de_var 0))) (dw_or1 (dt_w (dw_and (dt_tru (de_isi (by decide +kernel) (by rfl) T.z_isinstance (by rfl) T.z_int b_int (de_var 0))) (dw_and1 (dt_not (dt_tru (de_isi (by decide +kernel) (by rfl) T.z_isinstance (by rfl) T.z_bool b_bool (de_var 0))))))))))) (dss_one (ds_ret (de_var 0))) dss_nil)
    (dss_one (ds_ret de_str))))
theorem ok_law_standing {P : Program} {w : World} {K : PySem.W.Frag} {mg : Str → Option Value} {base : Heap} (T : Txt P K mg) (B : LamX.TabB base mg T.k_visited T.p_visited) : FnOk P w K mg base (L2.CX P w) 2 T.a_law_standing T.d_law_standing ["state", "most"] (spD ⟨K, mg⟩ d_law_standing) :=
  def_ok (k := 1) T.F_law_standing sc_law_standing rfl rfl fun cdv A outer s H E hr g =>
    (dss_cons (ds_set (i := 2) sc_law_standing.nd rfl (by first | exact Or.inl rfl | exact Or.inr rfl) (de_ix (de_val (fe_lst (da_cons de_int (da_cons de_int (da_cons de_int da_nil))))) (de_call g ((ok_law_take T B).mono (by decide)) hr (by rfl) T.m_law_take T.F_law_take.kp T.b_law_take (da_cons (de_var 0) (da_cons de_int da_nil))) (fun _ _ => rfl)))
    (dss_cons (ds_set (i := 3) sc_law_standing.nd rfl (by first | exact Or.inl rfl | exact Or.inr rfl) (de_ix (de_val (fe_lst (da_cons (de_val (fe_lst (da_cons de_int da_nil))) (da_cons (de_val (fe_lst (da_cons de_int (da_cons de_int da_nil)))) (da_cons (de_val (fe_lst (da_cons de_int (da_cons de_int (da_cons de_int da_nil))))) (da_cons (de_val (fe_lst (da_cons de_int (da_cons de_int (da_cons de_int (da_cons de_int (da_cons de_int da_nil))))))) (da_cons (de_val (fe_lst (da_cons de_int (da_cons de_int da_nil)))) da_nil))))))) (de_call g ((ok_law_take T B).mono (by decide)) hr (by rfl) T.m_law_take T.F_law_take.kp T.b_law_take (da_cons (de_var 0) (da_cons de_int da_nil))) (fun _ _ => rfl)))
    (dss_cons (ds_set (i := 4) sc_law_standing.nd rfl (by first | exact Or.inl rfl | exact Or.inr rfl) (de_ix (de_val (fe_lst (da_cons de_int (da_cons (de_bin ow_sub (de_call g ((ok_law_take T B).mono (by decide)) hr (by rfl) T.m_law_take T.F_law_take.kp T.b_law_take (da_cons (de_var 0) (da_cons de_int da_nil))) de_int) (da_cons (de_un ow_neg (de_bin ow_pow de_int de_int)) (da_cons (de_bin ow_sub (de_bin ow_pow de_int de_int) (de_bin ow_pow de_int de_int)) da_nil)))))) (de_call g ((ok_law_take T B).mono (by decide)) hr (by rfl) T.m_law_take T.F_law_take.kp T.b_law_take (da_cons (de_var 0) (da_cons de_int da_nil))) (fun _ _ => rfl)))
    (dss_cons (ds_set (i := 5) sc_law_standing.nd rfl (by first | exact Or.inl rfl | exact Or.inr rfl) (de_cell (fe_lst da_nil)))
    (dss_cons (ds_for g (di_rng1 (by rfl) T.z_range (da_cons (de_call g ((ok_law_take T B).mono (by decide)) hr (by rfl) T.m_law_take T.F_law_take.kp T.b_law_take (da_cons (de_var 0) (da_cons (de_bin ow_add (de_var 1) de_int) da_nil))) da_nil)) (dg_nm sc_law_standing.nd rfl (by first | exact Or.inl rfl | exact Or.inr rfl)) (dss_cons (ds_expr (de_meth PySem.F.slot_list_append PySem.F.type_list_append ow_append (de_var 5) (da_cons (de_tup (da_cons (de_var 4) (da_cons (de_ix (de_var 3) (de_call g ((ok_law_take T B).mono (by decide)) hr (by rfl) T.m_law_take T.F_law_take.kp T.b_law_take (da_cons (de_var 0) (da_cons (de_callB ow_len (by rfl) T.z_len b_len (da_cons (de_var 3) da_nil)) da_nil))) (fun _ _ => rfl)) da_nil))) da_nil)))
    (dss_cons (ds_set (i := 4) sc_law_standing.nd rfl (by first | exact Or.inl rfl | exact Or.inr rfl) (de_bin ow_add (de_bin ow_add (de_var 4) de_int) (de_bin ow_mul1 (de_call g ((ok_law_take T B).mono (by decide)) hr (by rfl) T.m_law_take T.F_law_take.kp T.b_law_take (da_cons (de_var 0) (da_cons (de_var 2) da_nil))) (de_call g ((ok_law_take T B).mono (by decide)) hr (by rfl) T.m_law_take T.F_law_take.kp T.b_law_take (da_cons (de_var 0) (da_cons de_int da_nil))))))
    (dss_one (ds_if (dt_cmp (ow_eq hr.units) (de_call g ((ok_law_take T B).mono (by decide)) hr (by rfl) T.m_law_take T.F_law_take.kp T.b_law_take (da_cons (de_var 0) (da_cons de_int da_nil))) de_int (nomark _)) (dss_one (ds_set (i := 4) sc_law_standing.nd rfl (by first | exact Or.inl rfl | exact Or.inr rfl) (de_bin ow_add (de_var 4) (de_call g ((ok_law_take T B).mono (by decide)) hr (by rfl) T.m_law_take T.F_law_take.kp T.b_law_take (da_cons (de_var 0) (da_cons (de_ix (de_val (fe_lst (da_cons de_int (da_cons (de_bin ow_pow de_int de_int) da_nil)))) (de_call g ((ok_law_take T B).mono (by decide)) hr (by rfl) T.m_law_take T.F_law_take.kp T.b_law_take (da_cons (de_var 0) (da_cons de_int da_nil))) (fun _ _ => rfl)) da_nil)))))) dss_nil)))))
    (dss_one (ds_ret (de_callTy ow_tuple (by rfl) T.z_tuple b_tuple (da_cons (de_var 5) da_nil)))))))))
theorem ok_law_room {P : Program} {w : World} {K : PySem.W.Frag} {mg : Str → Option Value} {base : Heap} (T : Txt P K mg) (B : LamX.TabB base mg T.k_visited T.p_visited) : FnOk P w K mg base (L2.CX P w) 2 T.a_law_room T.d_law_room ["state"] (spD ⟨K, mg⟩ d_law_room) :=
  def_ok (k := 1) T.F_law_room sc_law_room rfl rfl fun cdv A outer s H E hr g =>
    (dss_one (ds_ret (de_ix (de_val (fe_lst (da_cons (de_bin ow_add de_int (de_call g ((ok_law_take T B).mono (by decide)) hr (by rfl) T.m_law_take T.F_law_take.kp T.b_law_take (da_cons (de_var 0) (da_cons de_int da_nil)))) (da_cons (de_bin ow_add de_int (de_call g ((ok_law_take T B).mono (by decide)) hr (by rfl) T.m_law_take T.F_law_take.kp T.b_law_take (da_cons (de_var 0) (da_cons de_int da_nil)))) (da_cons (de_bin ow_add de_int (de_call g ((ok_law_take T B).mono (by decide)) hr (by rfl) T.m_law_take T.F_law_take.kp T.b_law_take (da_cons (de_var 0) (da_cons de_int da_nil)))) (da_cons de_int da_nil)))))) (de_call g ((ok_law_take T B).mono (by decide)) hr (by rfl) T.m_law_take T.F_law_take.kp T.b_law_take (da_cons (de_var 0) (da_cons de_int da_nil))) (fun _ _ => rfl))))
theorem ok_law_tableau {P : Program} {w : World} {K : PySem.W.Frag} {mg : Str → Option Value} {base : Heap} (T : Txt P K mg) (B : LamX.TabB base mg T.k_visited T.p_visited) : FnOk P w K mg base (L2.CX P w) 1 T.a_law_tableau T.d_law_tableau ["word"] (spD ⟨K, mg⟩ d_law_tableau) :=
  def_ok (k := 0) T.F_law_tableau sc_law_tableau rfl rfl fun cdv A outer s H E hr g =>
    (dss_cons (ds_set (i := 1) sc_law_tableau.nd rfl (by first | exact Or.inl rfl | exact Or.inr rfl) (de_nest (fk_lst da_nil)))
    (dss_cons (ds_for g (di_seq (de_rev (de_var 0))) (dg_nm sc_law_tableau.nd rfl (by first | exact Or.inl rfl | exact Or.inr rfl)) (dss_cons (ds_asg (de_tup (da_cons (de_var 2) (da_cons de_int da_nil))) (dg_tp rfl (dgs_cons (dg_nm sc_law_tableau.nd rfl (by first | exact Or.inl rfl | exact Or.inr rfl)) (dgs_cons (dg_nm sc_law_tableau.nd rfl (by first | exact Or.inl rfl | exact Or.inr rfl)) dgs_nil))))
    (dss_one (ds_for g (di_rng1 (by rfl) T.z_range (da_cons (de_bin ow_add (de_callB ow_len (by rfl) T.z_len b_len (da_cons (de_var 1) da_nil)) de_int) da_nil)) (dg_nm sc_law_tableau.nd rfl (by first | exact Or.inl rfl | exact Or.inr rfl)) (dss_cons (ds_if (dt_cmp (ow_eq hr.units) (de_var 4) (de_callB ow_len (by rfl) T.z_len b_len (da_cons (de_var 1) da_nil)) (nomark _)) (dss_cons (ds_expr (de_meth PySem.F.slot_list_append PySem.F.type_list_append ow_append (de_var 1) (da_cons (de_cell (fe_lst (da_cons (de_var 3) da_nil))) da_nil)))
    (dss_one ds_break)) dss_nil)
    (dss_cons (ds_setLcV (i := 6) g sc_law_tableau.nd rfl rfl (sw_true rfl rfl rfl (by decide +kernel)) (di_rng1 (by rfl) T.z_range (da_cons (de_callB ow_len (by rfl) T.z_len b_len (da_cons (de_ix (de_var 1) (de_var 4) (fun _ _ => rfl)) da_nil)) da_nil)) (blkOk_by (own := [("k", 7)]) (by kernel_rfl)) (fun _ _ _ _ _ => (dg_nm sc_law_tableau.nd rfl (by first | exact Or.inl rfl | exact Or.inr rfl))) (fun _ _ _ _ _ => (dts_one (dt_cmp ow_gt (de_ix (de_ix (de_var 1) (de_var 4) (fun _ _ => rfl)) (de_var 7) (fun _ _ => rfl)) (de_var 3) (nomark _)))) (fun _ _ _ _ _ => (de_var 7)) (by decide))
    (dss_cons (ds_if (dt_cmp (ow_eq hr.units) (de_callB ow_len (by rfl) T.z_len b_len (da_cons (de_var 6) da_nil)) de_int (nomark _)) (dss_cons (ds_expr (de_meth PySem.F.slot_list_append PySem.F.type_list_append ow_append (de_ix (de_var 1) (de_var 4) (fun _ _ => rfl)) (da_cons (de_var 3) da_nil)))
    (dss_one ds_break)) dss_nil)
    (dss_cons (ds_asgS (j := 3) rfl sc_law_tableau.nd rfl (by first | exact Or.inl rfl | exact Or.inr rfl) (de_tup (da_cons (de_ix (de_ix (de_var 1) (de_var 4) (fun _ _ => rfl)) (de_ix (de_var 6) de_int (fun _ _ => rfl)) (fun _ _ => rfl)) (da_cons (de_var 3) da_nil))) (de_ix (de_var 1) (de_var 4) (fun _ _ => rfl)) (de_ix (de_var 6) de_int (fun _ _ => rfl)))
    (dss_one (ds_set (i := 4) sc_law_tableau.nd rfl (by first | exact Or.inl rfl | exact Or.inr rfl) (de_bin ow_add (de_var 4) de_int)))))))))))
    (dss_one (ds_ret (de_var 1)))))
theorem ok_law_stepped {P : Program} {w : World} {K : PySem.W.Frag} {mg : Str → Option Value} {base : Heap} (T : Txt P K mg) (B : LamX.TabB base mg T.k_visited T.p_visited) : FnOk P w K mg base (L2.CX P w) 1 T.a_law_stepped T.d_law_stepped ["word", "i", "up"] (spD ⟨K, mg⟩ d_law_stepped) :=
  def_ok (k := 0) T.F_law_stepped sc_law_stepped rfl rfl fun cdv A outer s H E hr g =>
    (dss_cons (ds_par (i := 3) (j := 4) rfl sc_law_stepped.nd rfl rfl (by decide) rfl rfl (da_cons (de_cell (fe_lst da_nil)) (da_cons (de_cell (fe_lst da_nil)) da_nil)) (by rfl))
    (dss_cons (ds_for g (di_rng1 (by rfl) T.z_range (da_cons (de_callB ow_len (by rfl) T.z_len b_len (da_cons (de_var 0) da_nil)) da_nil)) (dg_nm sc_law_stepped.nd rfl (by first | exact Or.inl rfl | exact Or.inr rfl)) (dss_one (ds_if (dt_cmp (ow_eq hr.units) (de_ix (de_var 0) (de_var 5) (fun _ _ => rfl)) (de_var 1) (nomark _)) (dss_one (ds_expr (de_meth PySem.F.slot_list_append PySem.F.type_list_append ow_append (de_var 3) (da_cons (de_var 5) da_nil)))) (dss_one (ds_if (dt_cmp (ow_eq hr.units) (de_ix (de_var 0) (de_var 5) (fun _ _ => rfl)) (de_bin ow_add (de_var 1) de_int) (nomark _)) (dss_one (ds_if (dt_cmp ow_gt (de_callB ow_len (by rfl) T.z_len b_len (da_cons (de_var 3) da_nil)) de_int (nomark _)) (dss_one (ds_expr (de_meth0 PySem.F.slot_list_pop PySem.F.type_list_pop ow_pop (de_var 3)))) (dss_one (ds_expr (de_meth PySem.F.slot_list_append PySem.F.type_list_append ow_append (de_var 4) (da_cons (de_var 5) da_nil)))))) dss_nil)))))
    (dss_cons (ds_set (i := 6) sc_law_stepped.nd rfl (by first | exact Or.inl rfl | exact Or.inr rfl) (de_ite (dt_tru (de_var 2)) (de_sl (de_var 4) (dp_some (de_un ow_neg de_int)) dp_none) (de_sl (de_var 3) dp_none (dp_some de_int))))
    (dss_cons (ds_if (dt_cmp (ow_eq hr.units) (de_callB ow_len (by rfl) T.z_len b_len (da_cons (de_var 6) da_nil)) de_int (nomark _)) (dss_one (ds_ret de_non)) dss_nil)
    (dss_cons (ds_set (i := 7) sc_law_stepped.nd rfl (by first | exact Or.inl rfl | exact Or.inr rfl) (de_ix (de_var 6) de_int (fun _ _ => rfl)))
    (dss_one (ds_ret (de_bin ow_add (de_bin ow_add (de_sl (de_var 0) dp_none (dp_some (de_var 7))) (de_tup (da_cons (de_ite (dt_tru (de_var 2)) (de_var 1) (de_bin ow_add (de_var 1) de_int)) da_nil))) (de_sl (de_var 0) (dp_some (de_bin ow_add (de_var 7) de_int)) dp_none)))))))))
theorem ok_law {P : Program} {w : World} {K : PySem.W.Frag} {mg : Str → Option Value} {base : Heap} (T : Txt P K mg) (B : LamX.TabB base mg T.k_visited T.p_visited) : FnOk P w K mg base (L2.CX P w) 10 T.a_law T.d_law ["script"] (spD ⟨K, mg⟩ d_law) :=
  def_ok (k := 9) T.F_law sc_law rfl rfl fun cdv A outer s H E hr g =>
    (dss_cons (ds_set (i := 1) sc_law.nd rfl (by first | exact Or.inl rfl | exact Or.inr rfl) (de_call g ((ok_law_state T B).mono (by decide)) hr (by rfl) T.m_law_state T.F_law_state.kp T.b_law_state (da_cons (de_var 0) da_nil)))
    (dss_cons (ds_set (i := 2) sc_law.nd rfl (by first | exact Or.inl rfl | exact Or.inr rfl) (de_call g ((ok_law_standing T B).mono (by decide)) hr (by rfl) T.m_law_standing T.F_law_standing.kp T.b_law_standing (da_cons (de_var 1) (da_cons de_int da_nil))))
    (dss_cons (ds_if (dt_w (dw_and (dt_cmp ow_gt (de_callB ow_len (by rfl) T.z_len b_len (da_cons (de_var 2) da_nil)) de_int (nomark _)) (dw_and1 (dt_cmp ow_gt (de_callB ow_abs (by rfl) T.z_abs b_abs (da_cons (de_ix (de_ix (de_var 2) de_int (fun _ _ => rfl)) de_int (fun _ _ => rfl)) da_nil)) (de_bin ow_pow de_int de_int) (nomark _))))) (dss_one (ds_set (i := 2) sc_law.nd rfl (by first | exact Or.inl rfl | exact Or.inr rfl) (de_callTy ow_tuple (by rfl) T.z_tuple b_tuple (da_cons (de_val (fe_lc g sc_law.nd (di_seq (de_var 2)) (blkOk_by (own := [("x", 3), ("colour", 4)]) (by kernel_rfl)) (fun _ _ _ _ _ => (dg_tp rfl (dgs_cons (dg_nm sc_law.nd rfl (by first | exact Or.inl rfl | exact Or.inr rfl)) (dgs_cons (dg_nm sc_law.nd rfl (by first | exact Or.inl rfl | exact Or.inr rfl)) dgs_nil)))) (fun _ _ _ _ _ => dts_nil) (fun _ _ _ _ _ => (de_tup (da_cons (de_bin ow_sub (de_var 3) (de_ix (de_ix (de_var 2) de_int (fun _ _ => rfl)) de_int (fun _ _ => rfl))) (da_cons (de_var 4) da_nil)))) (by decide))) da_nil)))) dss_nil)
    (dss_cons (ds_set (i := 5) sc_law.nd rfl (by first | exact Or.inl rfl | exact Or.inr rfl) (de_call g ((ok_law_tableau T B).mono (by decide)) hr (by rfl) T.m_law_tableau T.F_law_tableau.kp T.b_law_tableau (da_cons (de_call g ((ok_law_plain T B 8).mono (by decide)) hr (by rfl) T.m_law_plain T.F_law_plain.kp T.b_law_plain (da_cons (de_call g ((ok_colours_of T B).mono (by decide)) hr (by rfl) T.m_colours_of T.F_colours_of.kp T.b_colours_of (da_cons (de_var 2) da_nil)) da_nil)) da_nil)))
    (dss_cons (ds_for g (di_rng1 (by rfl) T.z_range (da_cons (de_bin ow_add de_int (de_call g ((ok_law_take T B).mono (by decide)) hr (by rfl) T.m_law_take T.F_law_take.kp T.b_law_take (da_cons (de_var 1) (da_cons de_int da_nil)))) da_nil)) (dg_nm sc_law.nd rfl (by first | exact Or.inl rfl | exact Or.inr rfl)) (dss_cons (ds_par (i := 7) (j := 8) rfl sc_law.nd rfl rfl (by decide) rfl rfl (da_cons (de_call g ((ok_law_room T B).mono (by decide)) hr (by rfl) T.m_law_room T.F_law_room.kp T.b_law_room (da_cons (de_var 1) da_nil)) (da_cons (de_cmp ow_gt (de_call g ((ok_law_take T B).mono (by decide)) hr (by rfl) T.m_law_take T.F_law_take.kp T.b_law_take (da_cons (de_var 1) (da_cons de_int da_nil))) de_int (nomark _)) da_nil)) (by rfl))
    (dss_cons (ds_set (i := 9) sc_law.nd rfl (by first | exact Or.inl rfl | exact Or.inr rfl) (de_ite (dt_tru (de_var 8)) (de_call g ((ok_law_plain T B 8).mono (by decide)) hr (by rfl) T.m_law_plain T.F_law_plain.kp T.b_law_plain (da_cons (de_call g ((ok_carried T B).mono (by decide)) hr (by rfl) T.m_carried T.F_carried.kp T.b_carried (da_cons (de_var 2) (da_cons (de_var 7) da_nil))) da_nil)) (de_call g ((ok_law_plain T B 8).mono (by decide)) hr (by rfl) T.m_law_plain T.F_law_plain.kp T.b_law_plain (da_cons (de_call g ((ok_carried_back T B).mono (by decide)) hr (by rfl) T.m_carried_back T.F_carried_back.kp T.b_carried_back (da_cons (de_var 2) (da_cons (de_var 7) da_nil))) da_nil))))
    (dss_cons (ds_if (dt_cmp (ow_ne hr.units) (de_call g ((ok_law_tableau T B).mono (by decide)) hr (by rfl) T.m_law_tableau T.F_law_tableau.kp T.b_law_tableau (da_cons (de_call g ((ok_law_plain T B 8).mono (by decide)) hr (by rfl) T.m_law_plain T.F_law_plain.kp T.b_law_plain (da_cons (de_call g ((ok_colours_of T B).mono (by decide)) hr (by rfl) T.m_colours_of T.F_colours_of.kp T.b_colours_of (da_cons (de_var 9) da_nil)) da_nil)) da_nil)) (de_var 5) (nomark _)) (dss_one (ds_ret de_bl)) dss_nil)
    (dss_cons (ds_par (i := 10) (j := 11) rfl sc_law.nd rfl rfl (by decide) rfl rfl (da_cons (de_bin ow_add de_int (de_call g ((ok_law_take T B).mono (by decide)) hr (by rfl) T.m_law_take T.F_law_take.kp T.b_law_take (da_cons (de_var 1) (da_cons de_int da_nil)))) (da_cons (de_cmp (ow_eq hr.units) (de_call g ((ok_law_take T B).mono (by decide)) hr (by rfl) T.m_law_take T.F_law_take.kp T.b_law_take (da_cons (de_var 1) (da_cons de_int da_nil))) de_int (nomark _)) da_nil)) (by rfl))
    (dss_cons (ds_asg (de_tup (da_cons (de_call g ((ok_law_stepped T B).mono (by decide)) hr (by rfl) T.m_law_stepped T.F_law_stepped.kp T.b_law_stepped (da_cons (de_call g ((ok_law_plain T B 8).mono (by decide)) hr (by rfl) T.m_law_plain T.F_law_plain.kp T.b_law_plain (da_cons (de_call g ((ok_colours_of T B).mono (by decide)) hr (by rfl) T.m_colours_of T.F_colours_of.kp T.b_colours_of (da_cons (de_var 2) da_nil)) da_nil)) (da_cons (de_var 10) (da_cons (de_var 11) da_nil)))) (da_cons (de_call g ((ok_law_stepped T B).mono (by decide)) hr (by rfl) T.m_law_stepped T.F_law_stepped.kp T.b_law_stepped (da_cons (de_call g ((ok_law_plain T B 8).mono (by decide)) hr (by rfl) T.m_law_plain T.F_law_plain.kp T.b_law_plain (da_cons (de_call g ((ok_colours_of T B).mono (by decide)) hr (by rfl) T.m_colours_of T.F_colours_of.kp T.b_colours_of (da_cons (de_var 9) da_nil)) da_nil)) (da_cons (de_var 10) (da_cons (de_var 11) da_nil)))) da_nil))) (dg_tp rfl (dgs_cons (dg_nm sc_law.nd rfl (by first | exact Or.inl rfl | exact Or.inr rfl)) (dgs_cons (dg_nm sc_law.nd rfl (by first | exact Or.inl rfl | exact Or.inr rfl)) dgs_nil))))
    (dss_cons (ds_if (dt_cmp (ow_ne hr.units) (de_cmp ow_is (de_var 12) de_non (nomark _)) (de_cmp ow_is (de_var 13) de_non (nomark _)) (nomark _)) (dss_one (ds_ret de_bl)) dss_nil)
    (dss_cons (ds_if (dt_cmp ow_isNot (de_var 12) de_non (nomark _)) (dss_cons (ds_set (i := 14) sc_law.nd rfl (by first | exact Or.inl rfl | exact Or.inr rfl) (de_callTy ow_tuple (by rfl) T.z_tuple b_tuple (da_cons (de_val (fe_lc g sc_law.nd (di_rng1 (by rfl) T.z_range (da_cons (de_callB ow_len (by rfl) T.z_len b_len (da_cons (de_var 2) da_nil)) da_nil)) (blkOk_by (own := [("k", 15)]) (by kernel_rfl)) (fun _ _ _ _ _ => (dg_nm sc_law.nd rfl (by first | exact Or.inl rfl | exact Or.inr rfl))) (fun _ _ _ _ _ => dts_nil) (fun _ _ _ _ _ => (de_tup (da_cons (de_ix (de_ix (de_var 2) (de_var 15) (fun _ _ => rfl)) de_int (fun _ _ => rfl)) (da_cons (de_ix (de_var 12) (de_var 15) (fun _ _ => rfl)) da_nil)))) (by decide))) da_nil)))
    (dss_cons (ds_set (i := 16) sc_law.nd rfl (by first | exact Or.inl rfl | exact Or.inr rfl) (de_ite (dt_tru (de_var 8)) (de_call g ((ok_law_plain T B 8).mono (by decide)) hr (by rfl) T.m_law_plain T.F_law_plain.kp T.b_law_plain (da_cons (de_call g ((ok_carried T B).mono (by decide)) hr (by rfl) T.m_carried T.F_carried.kp T.b_carried (da_cons (de_var 14) (da_cons (de_var 7) da_nil))) da_nil)) (de_call g ((ok_law_plain T B 8).mono (by decide)) hr (by rfl) T.m_law_plain T.F_law_plain.kp T.b_law_plain (da_cons (de_call g ((ok_carried_back T B).mono (by decide)) hr (by rfl) T.m_carried_back T.F_carried_back.kp T.b_carried_back (da_cons (de_var 14) (da_cons (de_var 7) da_nil))) da_nil))))
    (dss_one (ds_if (dt_cmp (ow_ne hr.units) (de_var 16) (de_callTy ow_tuple (by rfl) T.z_tuple b_tuple (da_cons (de_val (fe_lc g sc_law.nd (di_rng1 (by rfl) T.z_range (da_cons (de_callB ow_len (by rfl) T.z_len b_len (da_cons (de_var 9) da_nil)) da_nil)) (blkOk_by (own := [("k", 15)]) (by kernel_rfl)) (fun _ _ _ _ _ => (dg_nm sc_law.nd rfl (by first | exact Or.inl rfl | exact Or.inr rfl))) (fun _ _ _ _ _ => dts_nil) (fun _ _ _ _ _ => (de_tup (da_cons (de_ix (de_ix (de_var 9) (de_var 15) (fun _ _ => rfl)) de_int (fun _ _ => rfl)) (da_cons (de_ix (de_var 13) (de_var 15) (fun _ _ => rfl)) da_nil)))) (by decide))) da_nil)) (nomark _)) (dss_one (ds_ret de_bl)) dss_nil)))) dss_nil)
    (dss_one (ds_set (i := 2) sc_law.nd rfl (by first | exact Or.inl rfl | exact Or.inr rfl) (de_var 9)))))))))))
    (dss_one (ds_ret de_bl)))))))
/-! the facts from the top -/
def txt_mk {P : Program} {K : PySem.W.Frag} {h : Heap} {mg : Str → Option Value} (X : K.In h) (G : h.Ns mainGlobals mg)
    {f_is_integer : Addr} {od_is_integer an_is_integer : Option Addr} {sl_is_integer : Array (Option Value)} {oc_is_integer kV_is_integer dc_is_integer pm_is_integer cd_is_integer ct_is_integer : Value}
    {f_is_ball : Addr} {od_is_ball an_is_ball : Option Addr} {sl_is_ball : Array (Option Value)} {oc_is_ball kV_is_ball dc_is_ball pm_is_ball cd_is_ball ct_is_ball : Value}
    {f_is_standing : Addr} {od_is_standing an_is_standing : Option Addr} {sl_is_standing : Array (Option Value)} {oc_is_standing kV_is_standing dc_is_standing pm_is_standing cd_is_standing ct_is_standing : Value}
    {f_check_standing : Addr} {od_check_standing an_check_standing : Option Addr} {sl_check_standing : Array (Option Value)} {oc_check_standing kV_check_standing dc_check_standing pm_check_standing cd_check_standing ct_check_standing : Value}
    {f_colours_of : Addr} {od_colours_of an_colours_of : Option Addr} {sl_colours_of : Array (Option Value)} {oc_colours_of kV_colours_of dc_colours_of pm_colours_of cd_colours_of ct_colours_of : Value}
    {f_is_room : Addr} {od_is_room an_is_room : Option Addr} {sl_is_room : Array (Option Value)} {oc_is_room kV_is_room dc_is_room pm_is_room cd_is_room ct_is_room : Value}
    {f_check_room : Addr} {od_check_room an_check_room : Option Addr} {sl_check_room : Array (Option Value)} {oc_check_room kV_check_room dc_check_room pm_check_room cd_check_room ct_check_room : Value}
    {f_held_letters : Addr} {od_held_letters an_held_letters : Option Addr} {sl_held_letters : Array (Option Value)} {oc_held_letters kV_held_letters dc_held_letters pm_held_letters cd_held_letters ct_held_letters : Value}
    {f_laid_down : Addr} {od_laid_down an_laid_down : Option Addr} {sl_laid_down : Array (Option Value)} {oc_laid_down kV_laid_down dc_laid_down pm_laid_down cd_laid_down ct_laid_down : Value}
    {f_laid_back : Addr} {od_laid_back an_laid_back : Option Addr} {sl_laid_back : Array (Option Value)} {oc_laid_back kV_laid_back dc_laid_back pm_laid_back cd_laid_back ct_laid_back : Value}
    {f_visited : Addr} {od_visited an_visited : Option Addr} {sl_visited : Array (Option Value)} {oc_visited kV_visited dc_visited pm_visited ct_visited : Value}
    {kk_visited pp_visited : Addr} {oc2_visited : Value} {dd2_visited : Option Addr} {vs2_visited : Array Value} {sl2_visited : Array (Option Value)}
    {f_run_once : Addr} {od_run_once an_run_once : Option Addr} {sl_run_once : Array (Option Value)} {oc_run_once kV_run_once dc_run_once pm_run_once cd_run_once ct_run_once : Value}
    {f_carried : Addr} {od_carried an_carried : Option Addr} {sl_carried : Array (Option Value)} {oc_carried kV_carried dc_carried pm_carried cd_carried ct_carried : Value}
    {f_run_back : Addr} {od_run_back an_run_back : Option Addr} {sl_run_back : Array (Option Value)} {oc_run_back kV_run_back dc_run_back pm_run_back cd_run_back ct_run_back : Value}
    {f_carried_back : Addr} {od_carried_back an_carried_back : Option Addr} {sl_carried_back : Array (Option Value)} {oc_carried_back kV_carried_back dc_carried_back pm_carried_back cd_carried_back ct_carried_back : Value}
    {f_law_state : Addr} {od_law_state an_law_state : Option Addr} {sl_law_state : Array (Option Value)} {oc_law_state kV_law_state dc_law_state pm_law_state cd_law_state ct_law_state : Value}
    {f_law_take : Addr} {od_law_take an_law_take : Option Addr} {sl_law_take : Array (Option Value)} {oc_law_take kV_law_take dc_law_take pm_law_take cd_law_take ct_law_take : Value}
    {f_law_plain : Addr} {od_law_plain an_law_plain : Option Addr} {sl_law_plain : Array (Option Value)} {oc_law_plain kV_law_plain dc_law_plain pm_law_plain cd_law_plain ct_law_plain : Value}
    {f_law_standing : Addr} {od_law_standing an_law_standing : Option Addr} {sl_law_standing : Array (Option Value)} {oc_law_standing kV_law_standing dc_law_standing pm_law_standing cd_law_standing ct_law_standing : Value}
    {f_law_room : Addr} {od_law_room an_law_room : Option Addr} {sl_law_room : Array (Option Value)} {oc_law_room kV_law_room dc_law_room pm_law_room cd_law_room ct_law_room : Value}
    {f_law_tableau : Addr} {od_law_tableau an_law_tableau : Option Addr} {sl_law_tableau : Array (Option Value)} {oc_law_tableau kV_law_tableau dc_law_tableau pm_law_tableau cd_law_tableau ct_law_tableau : Value}
    {f_law_stepped : Addr} {od_law_stepped an_law_stepped : Option Addr} {sl_law_stepped : Array (Option Value)} {oc_law_stepped kV_law_stepped dc_law_stepped pm_law_stepped cd_law_stepped ct_law_stepped : Value}
    {f_law : Addr} {od_law an_law : Option Addr} {sl_law : Array (Option Value)} {oc_law kV_law dc_law pm_law cd_law ct_law : Value}
    {t_FAR : Tok}
    {t_MOST_BALLS : Tok}
    {t_MOST_ROOM : Tok}
    {C_Malformed : Addr}
    (a1_is_integer : PySem.W.nsIn K mainGlobals "is_integer" = some (some (.ref f_is_integer))) (l1_is_integer : K.lookup f_is_integer = some ⟨oc_is_integer, od_is_integer, .func (PySem.W.fnOf "is_integer" "is_integer" (defArgs s_is_integer) (defBody s_is_integer) (defScope s_is_integer) .none kV_is_integer dc_is_integer pm_is_integer an_is_integer cd_is_integer ct_is_integer), sl_is_integer⟩) (c1_is_integer : PySem.W.codeIn K cd_is_integer "is_integer" = true) (k1_is_integer : PySem.W.keepIn K (.ref f_is_integer) = true)
    (a1_is_ball : PySem.W.nsIn K mainGlobals "is_ball" = some (some (.ref f_is_ball))) (l1_is_ball : K.lookup f_is_ball = some ⟨oc_is_ball, od_is_ball, .func (PySem.W.fnOf "is_ball" "is_ball" (defArgs s_is_ball) (defBody s_is_ball) (defScope s_is_ball) .none kV_is_ball dc_is_ball pm_is_ball an_is_ball cd_is_ball ct_is_ball), sl_is_ball⟩) (c1_is_ball : PySem.W.codeIn K cd_is_ball "is_ball" = true) (k1_is_ball : PySem.W.keepIn K (.ref f_is_ball) = true)
    (a1_is_standing : PySem.W.nsIn K mainGlobals "is_standing" = some (some (.ref f_is_standing))) (l1_is_standing : K.lookup f_is_standing = some ⟨oc_is_standing, od_is_standing, .func (PySem.W.fnOf "is_standing" "is_standing" (defArgs s_is_standing) (defBody s_is_standing) (defScope s_is_standing) .none kV_is_standing dc_is_standing pm_is_standing an_is_standing cd_is_standing ct_is_standing), sl_is_standing⟩) (c1_is_standing : PySem.W.codeIn K cd_is_standing "is_standing" = true) (k1_is_standing : PySem.W.keepIn K (.ref f_is_standing) = true)
    (a1_check_standing : PySem.W.nsIn K mainGlobals "check_standing" = some (some (.ref f_check_standing))) (l1_check_standing : K.lookup f_check_standing = some ⟨oc_check_standing, od_check_standing, .func (PySem.W.fnOf "check_standing" "check_standing" (defArgs s_check_standing) (defBody s_check_standing) (defScope s_check_standing) .none kV_check_standing dc_check_standing pm_check_standing an_check_standing cd_check_standing ct_check_standing), sl_check_standing⟩) (c1_check_standing : PySem.W.codeIn K cd_check_standing "check_standing" = true) (k1_check_standing : PySem.W.keepIn K (.ref f_check_standing) = true)
    (a1_colours_of : PySem.W.nsIn K mainGlobals "colours_of" = some (some (.ref f_colours_of))) (l1_colours_of : K.lookup f_colours_of = some ⟨oc_colours_of, od_colours_of, .func (PySem.W.fnOf "colours_of" "colours_of" (defArgs s_colours_of) (defBody s_colours_of) (defScope s_colours_of) .none kV_colours_of dc_colours_of pm_colours_of an_colours_of cd_colours_of ct_colours_of), sl_colours_of⟩) (c1_colours_of : PySem.W.codeIn K cd_colours_of "colours_of" = true) (k1_colours_of : PySem.W.keepIn K (.ref f_colours_of) = true)
    (a1_is_room : PySem.W.nsIn K mainGlobals "is_room" = some (some (.ref f_is_room))) (l1_is_room : K.lookup f_is_room = some ⟨oc_is_room, od_is_room, .func (PySem.W.fnOf "is_room" "is_room" (defArgs s_is_room) (defBody s_is_room) (defScope s_is_room) .none kV_is_room dc_is_room pm_is_room an_is_room cd_is_room ct_is_room), sl_is_room⟩) (c1_is_room : PySem.W.codeIn K cd_is_room "is_room" = true) (k1_is_room : PySem.W.keepIn K (.ref f_is_room) = true)
    (a1_check_room : PySem.W.nsIn K mainGlobals "check_room" = some (some (.ref f_check_room))) (l1_check_room : K.lookup f_check_room = some ⟨oc_check_room, od_check_room, .func (PySem.W.fnOf "check_room" "check_room" (defArgs s_check_room) (defBody s_check_room) (defScope s_check_room) .none kV_check_room dc_check_room pm_check_room an_check_room cd_check_room ct_check_room), sl_check_room⟩) (c1_check_room : PySem.W.codeIn K cd_check_room "check_room" = true) (k1_check_room : PySem.W.keepIn K (.ref f_check_room) = true)
    (a1_held_letters : PySem.W.nsIn K mainGlobals "held_letters" = some (some (.ref f_held_letters))) (l1_held_letters : K.lookup f_held_letters = some ⟨oc_held_letters, od_held_letters, .func (PySem.W.fnOf "held_letters" "held_letters" (defArgs s_held_letters) (defBody s_held_letters) (defScope s_held_letters) .none kV_held_letters dc_held_letters pm_held_letters an_held_letters cd_held_letters ct_held_letters), sl_held_letters⟩) (c1_held_letters : PySem.W.codeIn K cd_held_letters "held_letters" = true) (k1_held_letters : PySem.W.keepIn K (.ref f_held_letters) = true)
    (a1_laid_down : PySem.W.nsIn K mainGlobals "laid_down" = some (some (.ref f_laid_down))) (l1_laid_down : K.lookup f_laid_down = some ⟨oc_laid_down, od_laid_down, .func (PySem.W.fnOf "laid_down" "laid_down" (defArgs s_laid_down) (defBody s_laid_down) (defScope s_laid_down) .none kV_laid_down dc_laid_down pm_laid_down an_laid_down cd_laid_down ct_laid_down), sl_laid_down⟩) (c1_laid_down : PySem.W.codeIn K cd_laid_down "laid_down" = true) (k1_laid_down : PySem.W.keepIn K (.ref f_laid_down) = true)
    (a1_laid_back : PySem.W.nsIn K mainGlobals "laid_back" = some (some (.ref f_laid_back))) (l1_laid_back : K.lookup f_laid_back = some ⟨oc_laid_back, od_laid_back, .func (PySem.W.fnOf "laid_back" "laid_back" (defArgs s_laid_back) (defBody s_laid_back) (defScope s_laid_back) .none kV_laid_back dc_laid_back pm_laid_back an_laid_back cd_laid_back ct_laid_back), sl_laid_back⟩) (c1_laid_back : PySem.W.codeIn K cd_laid_back "laid_back" = true) (k1_laid_back : PySem.W.keepIn K (.ref f_laid_back) = true)
    (a1_visited : PySem.W.nsIn K mainGlobals "visited" = some (some (.ref f_visited))) (l1_visited : K.lookup f_visited = some ⟨oc_visited, od_visited, .func (PySem.W.fnOf "visited" "visited" (defArgs s_visited) (defBody s_visited) (defScope s_visited) .none kV_visited dc_visited pm_visited an_visited (.ref kk_visited) ct_visited), sl_visited⟩) (c1_visited : PySem.W.codeIn K (.ref kk_visited) "visited" = true) (k1_visited : PySem.W.keepIn K (.ref f_visited) = true)
    (g1_visited : K.lookup kk_visited = some ⟨oc2_visited, dd2_visited, .fields vs2_visited, sl2_visited⟩) (g2_visited : (vs2_visited[11]? : Option Value) = some (.ref pp_visited)) (h1_visited : PySem.W.codeHdIn K kk_visited pp_visited = true) (n1_visited : K.lookup pp_visited = none)
    (a1_run_once : PySem.W.nsIn K mainGlobals "run_once" = some (some (.ref f_run_once))) (l1_run_once : K.lookup f_run_once = some ⟨oc_run_once, od_run_once, .func (PySem.W.fnOf "run_once" "run_once" (defArgs s_run_once) (defBody s_run_once) (defScope s_run_once) .none kV_run_once dc_run_once pm_run_once an_run_once cd_run_once ct_run_once), sl_run_once⟩) (c1_run_once : PySem.W.codeIn K cd_run_once "run_once" = true) (k1_run_once : PySem.W.keepIn K (.ref f_run_once) = true)
    (a1_carried : PySem.W.nsIn K mainGlobals "carried" = some (some (.ref f_carried))) (l1_carried : K.lookup f_carried = some ⟨oc_carried, od_carried, .func (PySem.W.fnOf "carried" "carried" (defArgs s_carried) (defBody s_carried) (defScope s_carried) .none kV_carried dc_carried pm_carried an_carried cd_carried ct_carried), sl_carried⟩) (c1_carried : PySem.W.codeIn K cd_carried "carried" = true) (k1_carried : PySem.W.keepIn K (.ref f_carried) = true)
    (a1_run_back : PySem.W.nsIn K mainGlobals "run_back" = some (some (.ref f_run_back))) (l1_run_back : K.lookup f_run_back = some ⟨oc_run_back, od_run_back, .func (PySem.W.fnOf "run_back" "run_back" (defArgs s_run_back) (defBody s_run_back) (defScope s_run_back) .none kV_run_back dc_run_back pm_run_back an_run_back cd_run_back ct_run_back), sl_run_back⟩) (c1_run_back : PySem.W.codeIn K cd_run_back "run_back" = true) (k1_run_back : PySem.W.keepIn K (.ref f_run_back) = true)
    (a1_carried_back : PySem.W.nsIn K mainGlobals "carried_back" = some (some (.ref f_carried_back))) (l1_carried_back : K.lookup f_carried_back = some ⟨oc_carried_back, od_carried_back, .func (PySem.W.fnOf "carried_back" "carried_back" (defArgs s_carried_back) (defBody s_carried_back) (defScope s_carried_back) .none kV_carried_back dc_carried_back pm_carried_back an_carried_back cd_carried_back ct_carried_back), sl_carried_back⟩) (c1_carried_back : PySem.W.codeIn K cd_carried_back "carried_back" = true) (k1_carried_back : PySem.W.keepIn K (.ref f_carried_back) = true)
    (a1_law_state : PySem.W.nsIn K mainGlobals "_law_state" = some (some (.ref f_law_state))) (l1_law_state : K.lookup f_law_state = some ⟨oc_law_state, od_law_state, .func (PySem.W.fnOf "_law_state" "_law_state" (defArgs s_law_state) (defBody s_law_state) (defScope s_law_state) .none kV_law_state dc_law_state pm_law_state an_law_state cd_law_state ct_law_state), sl_law_state⟩) (c1_law_state : PySem.W.codeIn K cd_law_state "_law_state" = true) (k1_law_state : PySem.W.keepIn K (.ref f_law_state) = true)
    (a1_law_take : PySem.W.nsIn K mainGlobals "_law_take" = some (some (.ref f_law_take))) (l1_law_take : K.lookup f_law_take = some ⟨oc_law_take, od_law_take, .func (PySem.W.fnOf "_law_take" "_law_take" (defArgs s_law_take) (defBody s_law_take) (defScope s_law_take) .none kV_law_take dc_law_take pm_law_take an_law_take cd_law_take ct_law_take), sl_law_take⟩) (c1_law_take : PySem.W.codeIn K cd_law_take "_law_take" = true) (k1_law_take : PySem.W.keepIn K (.ref f_law_take) = true)
    (a1_law_plain : PySem.W.nsIn K mainGlobals "_law_plain" = some (some (.ref f_law_plain))) (l1_law_plain : K.lookup f_law_plain = some ⟨oc_law_plain, od_law_plain, .func (PySem.W.fnOf "_law_plain" "_law_plain" (defArgs s_law_plain) (defBody s_law_plain) (defScope s_law_plain) .none kV_law_plain dc_law_plain pm_law_plain an_law_plain cd_law_plain ct_law_plain), sl_law_plain⟩) (c1_law_plain : PySem.W.codeIn K cd_law_plain "_law_plain" = true) (k1_law_plain : PySem.W.keepIn K (.ref f_law_plain) = true)
    (a1_law_standing : PySem.W.nsIn K mainGlobals "_law_standing" = some (some (.ref f_law_standing))) (l1_law_standing : K.lookup f_law_standing = some ⟨oc_law_standing, od_law_standing, .func (PySem.W.fnOf "_law_standing" "_law_standing" (defArgs s_law_standing) (defBody s_law_standing) (defScope s_law_standing) .none kV_law_standing dc_law_standing pm_law_standing an_law_standing cd_law_standing ct_law_standing), sl_law_standing⟩) (c1_law_standing : PySem.W.codeIn K cd_law_standing "_law_standing" = true) (k1_law_standing : PySem.W.keepIn K (.ref f_law_standing) = true)
    (a1_law_room : PySem.W.nsIn K mainGlobals "_law_room" = some (some (.ref f_law_room))) (l1_law_room : K.lookup f_law_room = some ⟨oc_law_room, od_law_room, .func (PySem.W.fnOf "_law_room" "_law_room" (defArgs s_law_room) (defBody s_law_room) (defScope s_law_room) .none kV_law_room dc_law_room pm_law_room an_law_room cd_law_room ct_law_room), sl_law_room⟩) (c1_law_room : PySem.W.codeIn K cd_law_room "_law_room" = true) (k1_law_room : PySem.W.keepIn K (.ref f_law_room) = true)
    (a1_law_tableau : PySem.W.nsIn K mainGlobals "_law_tableau" = some (some (.ref f_law_tableau))) (l1_law_tableau : K.lookup f_law_tableau = some ⟨oc_law_tableau, od_law_tableau, .func (PySem.W.fnOf "_law_tableau" "_law_tableau" (defArgs s_law_tableau) (defBody s_law_tableau) (defScope s_law_tableau) .none kV_law_tableau dc_law_tableau pm_law_tableau an_law_tableau cd_law_tableau ct_law_tableau), sl_law_tableau⟩) (c1_law_tableau : PySem.W.codeIn K cd_law_tableau "_law_tableau" = true) (k1_law_tableau : PySem.W.keepIn K (.ref f_law_tableau) = true)
    (a1_law_stepped : PySem.W.nsIn K mainGlobals "_law_stepped" = some (some (.ref f_law_stepped))) (l1_law_stepped : K.lookup f_law_stepped = some ⟨oc_law_stepped, od_law_stepped, .func (PySem.W.fnOf "_law_stepped" "_law_stepped" (defArgs s_law_stepped) (defBody s_law_stepped) (defScope s_law_stepped) .none kV_law_stepped dc_law_stepped pm_law_stepped an_law_stepped cd_law_stepped ct_law_stepped), sl_law_stepped⟩) (c1_law_stepped : PySem.W.codeIn K cd_law_stepped "_law_stepped" = true) (k1_law_stepped : PySem.W.keepIn K (.ref f_law_stepped) = true)
    (a1_law : PySem.W.nsIn K mainGlobals "law" = some (some (.ref f_law))) (l1_law : K.lookup f_law = some ⟨oc_law, od_law, .func (PySem.W.fnOf "law" "law" (defArgs s_law) (defBody s_law) (defScope s_law) .none kV_law dc_law pm_law an_law cd_law ct_law), sl_law⟩) (c1_law : PySem.W.codeIn K cd_law "law" = true) (k1_law : PySem.W.keepIn K (.ref f_law) = true)
    (z1_abs : PySem.W.nsIn K mainGlobals "abs" = some none)
    (z1_all : PySem.W.nsIn K mainGlobals "all" = some none)
    (z1_bool : PySem.W.nsIn K mainGlobals "bool" = some none)
    (z1_int : PySem.W.nsIn K mainGlobals "int" = some none)
    (z1_isinstance : PySem.W.nsIn K mainGlobals "isinstance" = some none)
    (z1_len : PySem.W.nsIn K mainGlobals "len" = some none)
    (z1_range : PySem.W.nsIn K mainGlobals "range" = some none)
    (z1_str : PySem.W.nsIn K mainGlobals "str" = some none)
    (z1_tuple : PySem.W.nsIn K mainGlobals "tuple" = some none)
    (c2_FAR : PySem.W.nsIn K mainGlobals "FAR" = some (some (.int 1000000000000 t_FAR)))
    (c2_MOST_BALLS : PySem.W.nsIn K mainGlobals "MOST_BALLS" = some (some (.int 12 t_MOST_BALLS)))
    (c2_MOST_ROOM : PySem.W.nsIn K mainGlobals "MOST_ROOM" = some (some (.int 1000 t_MOST_ROOM)))
    (e1_Malformed : PySem.W.nsIn K mainGlobals "Malformed" = some (some (.ref C_Malformed))) (e2_Malformed : PySem.W.excIn K C_Malformed [.type "ValueError", .type "Exception", .type "BaseException", .type "object"] "ValueError.__new__" = true) (e3_Malformed : PySem.W.keepIn K (.ref C_Malformed) = true) (e4_Malformed : PySem.W.subIn K (.ref C_Malformed) (.type "BaseException") = some true) (e5_Malformed : PySem.W.typeIn K (.ref C_Malformed) = some (.type "type")) : Txt P K mg where
  a_is_integer := f_is_integer
  d_is_integer := _
  F_is_integer := fun_mk (st := s_is_integer) l1_is_integer c1_is_integer k1_is_integer
  b_is_integer := (fun_mk (st := s_is_integer) l1_is_integer c1_is_integer k1_is_integer).binds (ps := ["value"]) fun _ _ _ _ _ _ us hl => match us, hl with | [_], _ => rfl
  m_is_integer := PySem.W.mg_of X G a1_is_integer
  a_is_ball := f_is_ball
  d_is_ball := _
  F_is_ball := fun_mk (st := s_is_ball) l1_is_ball c1_is_ball k1_is_ball
  b_is_ball := (fun_mk (st := s_is_ball) l1_is_ball c1_is_ball k1_is_ball).binds (ps := ["value"]) fun _ _ _ _ _ _ us hl => match us, hl with | [_], _ => rfl
  m_is_ball := PySem.W.mg_of X G a1_is_ball
  a_is_standing := f_is_standing
  d_is_standing := _
  F_is_standing := fun_mk (st := s_is_standing) l1_is_standing c1_is_standing k1_is_standing
  b_is_standing := (fun_mk (st := s_is_standing) l1_is_standing c1_is_standing k1_is_standing).binds (ps := ["value"]) fun _ _ _ _ _ _ us hl => match us, hl with | [_], _ => rfl
  m_is_standing := PySem.W.mg_of X G a1_is_standing
  a_check_standing := f_check_standing
  d_check_standing := _
  F_check_standing := fun_mk (st := s_check_standing) l1_check_standing c1_check_standing k1_check_standing
  b_check_standing := (fun_mk (st := s_check_standing) l1_check_standing c1_check_standing k1_check_standing).binds (ps := ["s"]) fun _ _ _ _ _ _ us hl => match us, hl with | [_], _ => rfl
  m_check_standing := PySem.W.mg_of X G a1_check_standing
  a_colours_of := f_colours_of
  d_colours_of := _
  F_colours_of := fun_mk (st := s_colours_of) l1_colours_of c1_colours_of k1_colours_of
  b_colours_of := (fun_mk (st := s_colours_of) l1_colours_of c1_colours_of k1_colours_of).binds (ps := ["s"]) fun _ _ _ _ _ _ us hl => match us, hl with | [_], _ => rfl
  m_colours_of := PySem.W.mg_of X G a1_colours_of
  a_is_room := f_is_room
  d_is_room := _
  F_is_room := fun_mk (st := s_is_room) l1_is_room c1_is_room k1_is_room
  b_is_room := (fun_mk (st := s_is_room) l1_is_room c1_is_room k1_is_room).binds (ps := ["value"]) fun _ _ _ _ _ _ us hl => match us, hl with | [_], _ => rfl
  m_is_room := PySem.W.mg_of X G a1_is_room
  a_check_room := f_check_room
  d_check_room := _
  F_check_room := fun_mk (st := s_check_room) l1_check_room c1_check_room k1_check_room
  b_check_room := (fun_mk (st := s_check_room) l1_check_room c1_check_room k1_check_room).binds (ps := ["l"]) fun _ _ _ _ _ _ us hl => match us, hl with | [_], _ => rfl
  m_check_room := PySem.W.mg_of X G a1_check_room
  a_held_letters := f_held_letters
  d_held_letters := _
  F_held_letters := fun_mk (st := s_held_letters) l1_held_letters c1_held_letters k1_held_letters
  b_held_letters := (fun_mk (st := s_held_letters) l1_held_letters c1_held_letters k1_held_letters).binds (ps := ["held"]) fun _ _ _ _ _ _ us hl => match us, hl with | [_], _ => rfl
  m_held_letters := PySem.W.mg_of X G a1_held_letters
  a_laid_down := f_laid_down
  d_laid_down := _
  F_laid_down := fun_mk (st := s_laid_down) l1_laid_down c1_laid_down k1_laid_down
  b_laid_down := (fun_mk (st := s_laid_down) l1_laid_down c1_laid_down k1_laid_down).binds (ps := ["held", "letter"]) fun _ _ _ _ _ _ us hl => match us, hl with | [_, _], _ => rfl
  m_laid_down := PySem.W.mg_of X G a1_laid_down
  a_laid_back := f_laid_back
  d_laid_back := _
  F_laid_back := fun_mk (st := s_laid_back) l1_laid_back c1_laid_back k1_laid_back
  b_laid_back := (fun_mk (st := s_laid_back) l1_laid_back c1_laid_back k1_laid_back).binds (ps := ["held", "letter"]) fun _ _ _ _ _ _ us hl => match us, hl with | [_, _], _ => rfl
  m_laid_back := PySem.W.mg_of X G a1_laid_back
  a_visited := f_visited
  d_visited := _
  F_visited := fun_mk (st := s_visited) l1_visited c1_visited k1_visited
  b_visited := (fun_mk (st := s_visited) l1_visited c1_visited k1_visited).binds (ps := ["s", "l", "step"]) fun _ _ _ _ _ _ us hl => match us, hl with | [_, _, _], _ => rfl
  m_visited := PySem.W.mg_of X G a1_visited
  a_run_once := f_run_once
  d_run_once := _
  F_run_once := fun_mk (st := s_run_once) l1_run_once c1_run_once k1_run_once
  b_run_once := (fun_mk (st := s_run_once) l1_run_once c1_run_once k1_run_once).binds (ps := ["s", "l"]) fun _ _ _ _ _ _ us hl => match us, hl with | [_, _], _ => rfl
  m_run_once := PySem.W.mg_of X G a1_run_once
  a_carried := f_carried
  d_carried := _
  F_carried := fun_mk (st := s_carried) l1_carried c1_carried k1_carried
  b_carried := (fun_mk (st := s_carried) l1_carried c1_carried k1_carried).binds (ps := ["s", "l"]) fun _ _ _ _ _ _ us hl => match us, hl with | [_, _], _ => rfl
  m_carried := PySem.W.mg_of X G a1_carried
  a_run_back := f_run_back
  d_run_back := _
  F_run_back := fun_mk (st := s_run_back) l1_run_back c1_run_back k1_run_back
  b_run_back := (fun_mk (st := s_run_back) l1_run_back c1_run_back k1_run_back).binds (ps := ["s", "l"]) fun _ _ _ _ _ _ us hl => match us, hl with | [_, _], _ => rfl
  m_run_back := PySem.W.mg_of X G a1_run_back
  a_carried_back := f_carried_back
  d_carried_back := _
  F_carried_back := fun_mk (st := s_carried_back) l1_carried_back c1_carried_back k1_carried_back
  b_carried_back := (fun_mk (st := s_carried_back) l1_carried_back c1_carried_back k1_carried_back).binds (ps := ["s", "l"]) fun _ _ _ _ _ _ us hl => match us, hl with | [_, _], _ => rfl
  m_carried_back := PySem.W.mg_of X G a1_carried_back
  a_law_state := f_law_state
  d_law_state := _
  F_law_state := fun_mk (st := s_law_state) l1_law_state c1_law_state k1_law_state
  b_law_state := (fun_mk (st := s_law_state) l1_law_state c1_law_state k1_law_state).binds (ps := ["script"]) fun _ _ _ _ _ _ us hl => match us, hl with | [_], _ => rfl
  m_law_state := PySem.W.mg_of X G a1_law_state
  a_law_take := f_law_take
  d_law_take := _
  F_law_take := fun_mk (st := s_law_take) l1_law_take c1_law_take k1_law_take
  b_law_take := (fun_mk (st := s_law_take) l1_law_take c1_law_take k1_law_take).binds (ps := ["state", "m"]) fun _ _ _ _ _ _ us hl => match us, hl with | [_, _], _ => rfl
  m_law_take := PySem.W.mg_of X G a1_law_take
  a_law_plain := f_law_plain
  d_law_plain := _
  F_law_plain := fun_mk (st := s_law_plain) l1_law_plain c1_law_plain k1_law_plain
  b_law_plain := (fun_mk (st := s_law_plain) l1_law_plain c1_law_plain k1_law_plain).binds (ps := ["value"]) fun _ _ _ _ _ _ us hl => match us, hl with | [_], _ => rfl
  m_law_plain := PySem.W.mg_of X G a1_law_plain
  a_law_standing := f_law_standing
  d_law_standing := _
  F_law_standing := fun_mk (st := s_law_standing) l1_law_standing c1_law_standing k1_law_standing
  b_law_standing := (fun_mk (st := s_law_standing) l1_law_standing c1_law_standing k1_law_standing).binds (ps := ["state", "most"]) fun _ _ _ _ _ _ us hl => match us, hl with | [_, _], _ => rfl
  m_law_standing := PySem.W.mg_of X G a1_law_standing
  a_law_room := f_law_room
  d_law_room := _
  F_law_room := fun_mk (st := s_law_room) l1_law_room c1_law_room k1_law_room
  b_law_room := (fun_mk (st := s_law_room) l1_law_room c1_law_room k1_law_room).binds (ps := ["state"]) fun _ _ _ _ _ _ us hl => match us, hl with | [_], _ => rfl
  m_law_room := PySem.W.mg_of X G a1_law_room
  a_law_tableau := f_law_tableau
  d_law_tableau := _
  F_law_tableau := fun_mk (st := s_law_tableau) l1_law_tableau c1_law_tableau k1_law_tableau
  b_law_tableau := (fun_mk (st := s_law_tableau) l1_law_tableau c1_law_tableau k1_law_tableau).binds (ps := ["word"]) fun _ _ _ _ _ _ us hl => match us, hl with | [_], _ => rfl
  m_law_tableau := PySem.W.mg_of X G a1_law_tableau
  a_law_stepped := f_law_stepped
  d_law_stepped := _
  F_law_stepped := fun_mk (st := s_law_stepped) l1_law_stepped c1_law_stepped k1_law_stepped
  b_law_stepped := (fun_mk (st := s_law_stepped) l1_law_stepped c1_law_stepped k1_law_stepped).binds (ps := ["word", "i", "up"]) fun _ _ _ _ _ _ us hl => match us, hl with | [_, _, _], _ => rfl
  m_law_stepped := PySem.W.mg_of X G a1_law_stepped
  a_law := f_law
  d_law := _
  F_law := fun_mk (st := s_law) l1_law c1_law k1_law
  b_law := (fun_mk (st := s_law) l1_law c1_law k1_law).binds (ps := ["script"]) fun _ _ _ _ _ _ us hl => match us, hl with | [_], _ => rfl
  m_law := PySem.W.mg_of X G a1_law
  k_visited := kk_visited
  p_visited := pp_visited
  C_visited := funC_mk (st := s_visited) l1_visited c1_visited
  h_visited := h1_visited
  n_visited := n1_visited
  z_abs := PySem.W.mg_none_of X G z1_abs
  z_all := PySem.W.mg_none_of X G z1_all
  z_bool := PySem.W.mg_none_of X G z1_bool
  z_int := PySem.W.mg_none_of X G z1_int
  z_isinstance := PySem.W.mg_none_of X G z1_isinstance
  z_len := PySem.W.mg_none_of X G z1_len
  z_range := PySem.W.mg_none_of X G z1_range
  z_str := PySem.W.mg_none_of X G z1_str
  z_tuple := PySem.W.mg_none_of X G z1_tuple
  t_FAR := _
  c_FAR := PySem.W.mg_of X G c2_FAR
  t_MOST_BALLS := _
  c_MOST_BALLS := PySem.W.mg_of X G c2_MOST_BALLS
  t_MOST_ROOM := _
  c_MOST_ROOM := PySem.W.mg_of X G c2_MOST_ROOM
  a_Malformed := C_Malformed
  m_Malformed := PySem.W.mg_of X G e1_Malformed
  x_Malformed := e2_Malformed
  k_Malformed := e3_Malformed
  xb_Malformed := e4_Malformed
  xt_Malformed := e5_Malformed
end DL
namespace DL
open PySem L2
/-! ### the draw, alike for every law -/
abbrev T : Cell := .tab "visited"
theorem state_loop (D : DV) : ∀ (ms : List Int) (s t : Int) (x : Option DV), ∃ s' t' x', forGo ckT (.nm 3) L0_law_state (dit (ms.map PV.int)) [some D, some (.p (.int s)), some (.p (.int t)), x] [T] = .nx [some D, some (.p (.int s')), some (.p (.int t')), x'] [T]
  | [], s, t, x => ⟨s, t, x, for_nil⟩
  | m :: ms, s, t, x => by
    obtain ⟨s', t', x', e⟩ := state_loop D ms (s * 1000003 + (if m < 0 then -m else m)) ((t * 48271 + m) % 2147483647) (some (.p (.int m)))
    refine ⟨s', t', x', ?_⟩
    have m1 : ∀ (i : Int) (S : AH), mulO1 (.p (.int i)) (.p (.int 48271)) S = some (.p (.int (i * 48271)), S) := fun i S => mulO1_int (mulOk_r (by decide))
    have m2 : ∀ (i : Int) (S : AH), mulO1 (.p (.int i)) (.p (.int 1000003)) S = some (.p (.int (i * 1000003)), S) := fun i S => mulO1_int (mulOk_r (by decide))
    have mb : ∀ (i : Int) (S : AH), modO (.p (.int i)) (.p (.int 2147483647)) S = some (.p (.int (i % 2147483647)), S) := fun i S => modO_int (by decide)
    rw [List.map_cons, dit_cons, for_nm, ← e]
    simp [L0_law_state, m1, m2, mb]
theorem state_ok (D : PV) (ns : List Int) (hD : D = .fro (ns.map PV.int) ∨ D = .lst (ns.map PV.int)) : ∃ a b : Int, d_law_state [.p D] [T] = .ok (.c 1) [T, .lst [.int a, .int b]] := by
  obtain ⟨s', t', x', e⟩ := state_loop (.p D) (cutL ns none (some 63)) 0 1 none
  refine ⟨s', t', ?_⟩
  rw [← cutL_map] at e
  rcases hD with rfl | rfl
  · simp [d_law_state, b_law_state_, e]
    exact gc_cell (by simp [okc]) (by simp) rfl
  · simp [d_law_state, b_law_state_, e]
    exact gc_cell (by simp [okc]) (by simp) rfl
def tkV (a b m : Int) : Int := if 0 < a then a % m else (b * 48271 + 11) % 2147483647 / 7 % m
def tkA (a m : Int) : Int := if 0 < a then a / m else a
def tkB (a b : Int) : Int := if 0 < a then b else (b * 48271 + 11) % 2147483647
theorem tkV_bd {a b m : Int} (h : 0 < m) : 0 ≤ tkV a b m ∧ tkV a b m < m := by
  unfold tkV
  split
  · exact ⟨Int.emod_nonneg _ (by omega), Int.emod_lt_of_pos _ h⟩
  · exact ⟨Int.emod_nonneg _ (by omega), Int.emod_lt_of_pos _ h⟩
theorem ixO_c0 {i : Int} {xs : List PV} {x : PV} {R : AH} (e : atI xs i = some x) : ixO (.c 1) (.p (.int i)) (T :: .lst xs :: R) = some (.p x, T :: .lst xs :: R) := ixO_c rfl e
theorem take_ok0 (a b m : Int) (R : AH) (h0 : 0 < m) (hm : divOk m) : d_law_take [.c 1, .p (.int m)] (T :: .lst [.int a, .int b] :: R) = .ok (.p (.int (tkV a b m))) (T :: .lst [.int (tkA a m), .int (tkB a b)] :: R) := by
  have e0 : ∀ (x y : PV) (R : AH), ixO (.c 1) (.p (.int 0)) (T :: .lst [x, y] :: R) = some (.p x, T :: .lst [x, y] :: R) := fun x y R => ixO_c0 rfl
  have e1 : ∀ (x y : PV) (R : AH), ixO (.c 1) (.p (.int 1)) (T :: .lst [x, y] :: R) = some (.p y, T :: .lst [x, y] :: R) := fun x y R => ixO_c0 rfl
  have s0 : ∀ (x y z : PV) (R : AH), setIx (.c 1) (.p (.int 0)) (.p z) (T :: .lst [x, y] :: R) = some (T :: .lst [z, y] :: R) := fun x y z R => rfl
  have s1 : ∀ (x y z : PV) (R : AH), setIx (.c 1) (.p (.int 1)) (.p z) (T :: .lst [x, y] :: R) = some (T :: .lst [x, z] :: R) := fun x y z R => rfl
  have j0 : ∀ (δ : Sig) (x y z : PV) (R : AH), jSub3 (.c 1) (.p z) (.p (.int 0)) δ (T :: .lst [x, y] :: R) = .nx δ (T :: .lst [z, y] :: R) := fun δ x y z R => ev_jSub3 (s0 x y z R)
  have j1 : ∀ (δ : Sig) (x y z : PV) (R : AH), jSub3 (.c 1) (.p z) (.p (.int 1)) δ (T :: .lst [x, y] :: R) = .nx δ (T :: .lst [x, z] :: R) := fun δ x y z R => ev_jSub3 (s1 x y z R)
  have m1 : ∀ (i : Int) (S : AH), mulO1 (.p (.int i)) (.p (.int 48271)) S = some (.p (.int (i * 48271)), S) := fun i S => mulO1_int (mulOk_r (by decide))
  have d7 : ∀ (i : Int) (S : AH), divO (.p (.int i)) (.p (.int 7)) S = some (.p (.int (i / 7)), S) := fun i S => divO_int (divOk_of (by decide) (by decide))
  have mb : ∀ (i : Int) (S : AH), modO (.p (.int i)) (.p (.int 2147483647)) S = some (.p (.int (i % 2147483647)), S) := fun i S => modO_int (by decide)
  have mm : ∀ (i : Int) (S : AH), modO (.p (.int i)) (.p (.int m)) S = some (.p (.int (i % m)), S) := fun i S => modO_int h0
  have dm : ∀ (i : Int) (S : AH), divO (.p (.int i)) (.p (.int m)) S = some (.p (.int (i / m)), S) := fun i S => divO_int hm
  by_cases h : 0 < a
  · simp [d_law_take, b_law_take_, e0, e1, j0, j1, m1, d7, mb, mm, dm, h, tkV, tkA, tkB]
  · simp [d_law_take, b_law_take_, e0, e1, j0, j1, m1, d7, mb, mm, dm, h, tkV, tkA, tkB]
/-- a cell of two numbers: the draw's state -/
def St2 (c : Cell) : Prop := ∃ a b : Int, c = .lst [.int a, .int b]
/-- a take: some number below the bound -/
theorem take_ok {c : Cell} (h : St2 c) {m : Int} (R : AH) (h0 : 0 < m) (h1 : m < 2 ^ 64) : ∃ v c', St2 c' ∧ (0 ≤ v ∧ v < m) ∧ d_law_take [.c 1, .p (.int m)] (T :: c :: R) = .ok (.p (.int v)) (T :: c' :: R) := by
  obtain ⟨a, b, rfl⟩ := h
  exact ⟨_, _, ⟨_, _, rfl⟩, tkV_bd h0, take_ok0 a b m R h0 (divOk_of h0 h1)⟩
end DL
namespace DL
open PySem L2
/-! ### bumping, as a plain function (no program in sight but for the layer's values) -/
def rowAt (rows : List (List Int)) (i : Nat) : List Int := rows.getD i []
def itAt (r : List Int) (j : Nat) : Int := r.getD j 0
theorem it_get {r : List Int} {k : Nat} (hk : k < r.length) : itAt r k = r[k] := by
  unfold itAt; simp [hk]
def tabV (rows : List (List Int)) : List PV := rows.map tupI
@[simp] theorem tabV_len (rows : List (List Int)) : (tabV rows).length = rows.length := List.length_map _
theorem tab_ix {rows : List (List Int)} {i : Nat} (h : i < rows.length) (S : AH) : ixO (.p (.tup (tabV rows))) (.p (.int (i : Int))) S = some (.p (tupI (rowAt rows i)), S) := by
  refine ixO_tup (atI_map tupI (atI_nat ?_))
  unfold rowAt
  simp [h]
theorem row_ix {r : List Int} {j : Nat} (h : j < r.length) (S : AH) : ixO (.p (.tup (r.map PV.int))) (.p (.int (j : Int))) S = some (.p (.int (itAt r j)), S) := by
  refine ixO_tup (atI_map PV.int (atI_nat ?_))
  rw [it_get h, List.getElem?_eq_getElem h]
/-- the indexes of the greater ones -/
def gts (x : Int) (r : List Int) : List Nat := (List.range r.length).filter fun j => decide (x < itAt r j)
theorem gts_mem {x : Int} {r : List Int} {j : Nat} : j ∈ gts x r ↔ j < r.length ∧ x < itAt r j := by
  unfold gts
  rw [List.mem_filter, List.mem_range, decide_eq_true_iff]
def bumpL : List (List Int) → Int → List (List Int) × Nat
  | [], x => ([[x]], 0)
  | r :: rs, x => match gts x r with
    | [] => ((r ++ [x]) :: rs, 0)
    | k :: _ => (r.set k x :: (bumpL rs (itAt r k)).1, (bumpL rs (itAt r k)).2 + 1)
theorem bumpL_stop {r : List Int} {rs : List (List Int)} {x : Int} (h : gts x r = []) : bumpL (r :: rs) x = ((r ++ [x]) :: rs, 0) := by
  rw [bumpL, h]
theorem bumpL_on {r : List Int} {rs : List (List Int)} {x : Int} {k : Nat} {t : List Nat} (h : gts x r = k :: t) : bumpL (r :: rs) x = (r.set k x :: (bumpL rs (itAt r k)).1, (bumpL rs (itAt r k)).2 + 1) := by
  rw [bumpL, h]
/-- rows that are not empty, of a length to N -/
def Good (N : Nat) (rs : List (List Int)) : Prop := ∀ r ∈ rs, 0 < r.length ∧ r.length ≤ N
theorem Good.set {N : Nat} {rs : List (List Int)} (h : Good N rs) {i : Nat} {r : List Int} (hr : 0 < r.length ∧ r.length ≤ N) : Good N (rs.set i r) := fun q hq => by
  rcases List.mem_or_eq_of_mem_set hq with w | rfl
  · exact h q w
  · exact hr
theorem Good.mono {N M : Nat} {rs : List (List Int)} (h : Good N rs) (w : N ≤ M) : Good M rs := fun q hq => ⟨(h q hq).1, Nat.le_trans (h q hq).2 w⟩
theorem rowAt_mem {rs : List (List Int)} {i : Nat} (hi : i < rs.length) : rowAt rs i ∈ rs := by
  unfold rowAt; rw [List.getD_eq_getElem?_getD, List.getElem?_eq_getElem hi]; exact List.getElem_mem hi
theorem Good.at {N : Nat} {rs : List (List Int)} (h : Good N rs) {i : Nat} (hi : i < rs.length) : 0 < (rowAt rs i).length ∧ (rowAt rs i).length ≤ N := h _ (rowAt_mem hi)
theorem Good.nil {N : Nat} : Good N [] := fun q hq => by cases hq
theorem Good.cons {N : Nat} {r : List Int} {rs : List (List Int)} (h1 : 0 < r.length ∧ r.length ≤ N) (h2 : Good N rs) : Good N (r :: rs) := fun q hq => by
  rcases List.mem_cons.mp hq with rfl | hq
  · exact h1
  · exact h2 q hq
theorem Good.tl {N : Nat} {r : List Int} {rs : List (List Int)} (h : Good N (r :: rs)) : Good N rs := fun q hq => h q (List.mem_cons_of_mem _ hq)
theorem bumpL_good {N : Nat} : ∀ {rs : List (List Int)} {x : Int}, Good N rs → Good (N + 1) (bumpL rs x).1
  | [], x, _ => by rw [bumpL]; exact .cons (by simp) .nil
  | r :: rs, x, h => by
    have h1 := h r List.mem_cons_self
    cases e : gts x r with
    | nil => rw [bumpL_stop e]; exact .cons (by simp; omega) (h.tl.mono (by omega))
    | cons k t => rw [bumpL_on e]; exact .cons (by simp; omega) (bumpL_good h.tl)
theorem bumpL_len : ∀ {rs : List (List Int)} {x : Int}, ((bumpL rs x).2 < rs.length ∧ (bumpL rs x).1.length = rs.length) ∨ ((bumpL rs x).2 = rs.length ∧ (bumpL rs x).1.length = rs.length + 1)
  | [], x => .inr ⟨rfl, rfl⟩
  | r :: rs, x => by
    cases e : gts x r with
    | nil => rw [bumpL_stop e]; exact .inl ⟨by simp, by simp⟩
    | cons k t =>
      rw [bumpL_on e]
      rcases bumpL_len (rs := rs) (x := itAt r k) with ⟨a, b⟩ | ⟨a, b⟩
      · exact .inl ⟨by simp; omega, by simp; omega⟩
      · exact .inr ⟨by simp; omega, by simp; omega⟩
/-- a number in a box more -/
def addBox (q : List (List Int)) (i : Nat) (v : Int) : List (List Int) := if i = q.length then q ++ [[v]] else q.set i (rowAt q i ++ [v])
/-- the pair of a word, inserted from the last letter -/
def pairL : List Int → List (List Int) × List (List Int)
  | [] => ([], [])
  | a :: w => ((bumpL (pairL w).1 a).1, addBox (pairL w).2 (bumpL (pairL w).1 a).2 ((w.length : Int) + 1))
theorem addBox_len {q : List (List Int)} {i : Nat} {v : Int} : (addBox q i v).length = if i = q.length then q.length + 1 else q.length := by
  unfold addBox
  split <;> simp
theorem pairL_len : ∀ w : List Int, (pairL w).2.length = (pairL w).1.length ∧ (pairL w).1.length ≤ w.length
  | [] => ⟨rfl, Nat.le_refl _⟩
  | a :: w => by
    obtain ⟨h1, h2⟩ := pairL_len w
    rw [pairL]
    simp only [addBox_len, List.length_cons]
    rcases bumpL_len (rs := (pairL w).1) (x := a) with ⟨a, b⟩ | ⟨a, b⟩
    · rw [if_neg (by omega)]; omega
    · rw [if_pos (by omega)]; omega
theorem addBox_good {N : Nat} {q : List (List Int)} {i : Nat} {v : Int} (h : Good N q) (hi : i ≤ q.length) : Good (N + 1) (addBox q i v) := by
  unfold addBox
  split
  · intro r hr
    rcases List.mem_append.mp hr with w | w
    · exact (h.mono (by omega)) r w
    · rcases List.mem_singleton.mp w with rfl
      simp
  · have := h.at (i := i) (by omega)
    exact (h.mono (by omega)).set (by simp; omega)
theorem pairL_good : ∀ w : List Int, Good w.length (pairL w).1 ∧ Good w.length (pairL w).2
  | [] => ⟨.nil, .nil⟩
  | a :: w => by
    obtain ⟨h1, h2⟩ := pairL_good w
    have l := pairL_len w
    refine ⟨bumpL_good h1, addBox_good h2 ?_⟩
    rcases bumpL_len (rs := (pairL w).1) (x := a) with ⟨a, b⟩ | ⟨a, b⟩ <;> omega
/-- rows of numbers as rows of values -/
def pr (rs : List (List Int)) : List (List PV) := rs.map fun r => r.map PV.int
@[simp] theorem pr_len (rs : List (List Int)) : (pr rs).length = rs.length := List.length_map _
theorem pr_at {rs : List (List Int)} {i : Nat} (h : i < rs.length) : (pr rs).getD i [] = (rowAt rs i).map PV.int := by
  unfold pr rowAt
  simp [h]
theorem pr_set (rs : List (List Int)) (i : Nat) (r : List Int) : (pr rs).set i (r.map PV.int) = pr (rs.set i r) := by
  unfold pr; rw [List.map_set]
theorem pr_app (rs : List (List Int)) (r : List Int) : pr rs ++ [r.map PV.int] = pr (rs ++ [r]) := by
  unfold pr; simp
def unl : PV → List PV
  | .lst xs => xs
  | _ => []
end DL
namespace DL
/-! ### a letter into a row, and the steps of Knuth -/
def ri : List Int → Int → List Int × List Int
  | [], x => ([x], [])
  | a :: r, x => if x < a then (x :: r, [a]) else (a :: (ri r x).1, (ri r x).2)
theorem ri_lt {a x : Int} (r : List Int) (h : x < a) : ri (a :: r) x = (x :: r, [a]) := by rw [ri, if_pos h]
theorem ri_ge {a x : Int} (r : List Int) (h : ¬ x < a) : ri (a :: r) x = (a :: (ri r x).1, (ri r x).2) := by rw [ri, if_neg h]
/-- the letters of a word into a row, the last one first -/
def rwd (r : List Int) : List Int → List Int × List Int
  | [] => (r, [])
  | a :: w => ((ri (rwd r w).1 a).1, (ri (rwd r w).1 a).2 ++ (rwd r w).2)
def Srt (r : List Int) : Prop := r.Pairwise (· ≤ ·)
theorem Srt.tl {a : Int} {r : List Int} (h : Srt (a :: r)) : Srt r := (List.pairwise_cons.mp h).2
theorem Srt.hd {a : Int} {r : List Int} (h : Srt (a :: r)) : ∀ b ∈ r, a ≤ b := (List.pairwise_cons.mp h).1
theorem ri_mem {x : Int} : ∀ {r : List Int} {b : Int}, b ∈ (ri r x).1 → b = x ∨ b ∈ r
  | [], b, h => by simp [ri] at h; exact .inl h
  | a :: r, b, h => by
    by_cases c : x < a
    · rw [ri_lt r c] at h
      rcases List.mem_cons.mp h with h | h
      · exact .inl h
      · exact .inr (List.mem_cons_of_mem _ h)
    · rw [ri_ge r c] at h
      rcases List.mem_cons.mp h with h | h
      · exact .inr (by rw [h]; exact List.mem_cons_self)
      · rcases ri_mem h with h | h
        · exact .inl h
        · exact .inr (List.mem_cons_of_mem _ h)
theorem ri_srt {x : Int} : ∀ {r : List Int}, Srt r → Srt (ri r x).1
  | [], _ => by simp [ri, Srt]
  | a :: r, h => by
    by_cases c : x < a
    · rw [ri_lt r c]
      exact List.pairwise_cons.mpr ⟨fun b hb => by have := h.hd b hb; omega, h.tl⟩
    · rw [ri_ge r c]
      refine List.pairwise_cons.mpr ⟨fun b hb => ?_, ri_srt h.tl⟩
      rcases ri_mem hb with rfl | hb
      · omega
      · exact h.hd b hb
theorem ri_out {x : Int} : ∀ {r : List Int}, (ri r x).2 = [] ∨ ∃ b, (ri r x).2 = [b] ∧ b ∈ r ∧ x < b
  | [] => .inl rfl
  | a :: r => by
    by_cases c : x < a
    · rw [ri_lt r c]
      exact .inr ⟨a, rfl, List.mem_cons_self, c⟩
    · rw [ri_ge r c]
      rcases ri_out (x := x) (r := r) with h | ⟨b, h1, h2, h3⟩
      · exact .inl h
      · exact .inr ⟨b, h1, List.mem_cons_of_mem _ h2, h3⟩
/-- a greater letter lets something out -/
theorem ri_some {x : Int} : ∀ {r : List Int} {b : Int}, b ∈ r → x < b → ∃ c, (ri r x).2 = [c]
  | a :: r, b, hb, h => by
    by_cases c : x < a
    · rw [ri_lt r c]; exact ⟨a, rfl⟩
    · rw [ri_ge r c]
      rcases List.mem_cons.mp hb with rfl | hb
      · exact absurd h c
      · exact ri_some hb h
theorem ri_in {x : Int} : ∀ {r : List Int}, x ∈ (ri r x).1
  | [] => by simp [ri]
  | a :: r => by
    by_cases c : x < a
    · rw [ri_lt r c]; exact List.mem_cons_self
    · rw [ri_ge r c]; exact List.mem_cons_of_mem _ ri_in
/-- what comes out is the least one that is greater -/
theorem ri_least {x : Int} : ∀ {r : List Int} {c b : Int}, Srt r → (ri r x).2 = [c] → b ∈ r → x < b → c ≤ b
  | a :: r, c, b, hs, h, hb, hx => by
    by_cases q : x < a
    · rw [ri_lt r q] at h
      obtain rfl : a = c := by simpa using h
      rcases List.mem_cons.mp hb with rfl | hb
      · exact Int.le_refl _
      · exact hs.hd b hb
    · rw [ri_ge r q] at h
      rcases List.mem_cons.mp hb with rfl | hb
      · exact absurd hx q
      · exact ri_least hs.tl h hb hx
/-! three letters -/
inductive Kt : List Int → List Int → Prop
  | a {x y z : Int} : x ≤ y → y < z → Kt [y, z, x] [y, x, z]
  | b {x y z : Int} : x < y → y ≤ z → Kt [z, x, y] [x, z, y]
def KO (u v : List Int) : Prop := u = v ∨ Kt u v ∨ Kt v u
theorem rwd3 (r : List Int) (p q s : Int) : rwd r [p, q, s] = ((ri (ri (ri r s).1 q).1 p).1, (ri (ri (ri r s).1 q).1 p).2 ++ ((ri (ri r s).1 q).2 ++ (ri r s).2)) := by
  simp [rwd]
/-- y behind z, into a row with no letter up to y ahead: both come out, or none of z -/
theorem out_zy {r : List Int} {y z c : Int} (hs : Srt r) (h : y < z) (hz : (ri r z).2 = [c]) : ∃ d, (ri (ri r z).1 y).2 = [d] ∧ d ≤ z ∧ z < c := by
  obtain ⟨d, hd⟩ := ri_some (ri_in (x := z) (r := r)) h
  refine ⟨d, hd, ri_least (ri_srt hs) hd ri_in h, ?_⟩
  rcases ri_out (x := z) (r := r) with e | ⟨b, h1, h2, h3⟩
  · rw [e] at hz; simp at hz
  · rw [h1] at hz
    obtain rfl : b = c := by simpa using hz
    exact h3
/-- z behind y -/
theorem out_yz {y z : Int} : ∀ {r : List Int} {c : Int}, Srt r → y ≤ z → (ri (ri r y).1 z).2 = [c] → ∃ b, (ri r y).2 = [b] ∧ b ≤ c ∧ y < b
  | [], c, hs, h, e => by
    have : ¬ z < y := by omega
    simp [ri, this] at e
  | a :: r, c, hs, h, e => by
    by_cases q : y < a
    · rw [ri_lt r q] at e ⊢
      have : ¬ z < y := by omega
      rw [ri_ge r this] at e
      refine ⟨a, rfl, ?_, q⟩
      rcases ri_out (x := z) (r := r) with w | ⟨b, h1, h2, h3⟩
      · rw [w] at e; simp at e
      · rw [h1] at e
        obtain rfl : b = c := by simpa using e
        exact hs.hd b h2
    · rw [ri_ge r q] at e ⊢
      have : ¬ z < a := by omega
      rw [ri_ge _ this] at e
      exact out_yz hs.tl h e
theorem row_a {x y z : Int} (hx : x ≤ y) (hz : y < z) : ∀ {r : List Int}, Srt r → (rwd r [y, z, x]).1 = (rwd r [y, x, z]).1 ∧ KO (rwd r [y, z, x]).2 (rwd r [y, x, z]).2
  | [], _ => by
    have h1 : ¬ z < x := by omega
    have h2 : ¬ y < x := by omega
    have h3 : x < z := by omega
    rw [rwd3, rwd3]
    simp [ri, h1, h2, h3, hz]
    exact .inl rfl
  | a :: r, hs => by
    rw [rwd3, rwd3]
    by_cases q : x < a
    · by_cases w : z < a
      · have z1 : ¬ z < x := by omega
        have y1 : ¬ y < x := by omega
        have x1 : x < z := by omega
        rw [ri_lt r q, ri_lt r w]
        simp only [ri_ge _ z1, ri_lt _ x1]
        simp only [ri_ge _ y1]
        cases r with
        | nil =>
          simp [ri, hz]
          exact .inl rfl
        | cons b r =>
          have hb := hs.hd b List.mem_cons_self
          have zb : z < b := by omega
          have yb : y < b := by omega
          rw [ri_lt r zb, ri_lt r yb]
          simp only [ri_lt _ hz]
          exact ⟨by first | rfl | simp, .inr (.inr (by simpa using Kt.b w hb))⟩
      · have z1 : ¬ z < x := by omega
        have y1 : ¬ y < x := by omega
        rw [ri_lt r q, ri_ge r w]
        simp only [ri_ge _ z1, ri_lt _ q]
        simp only [ri_ge _ y1]
        refine ⟨trivial, ?_⟩
        rcases ri_out (x := z) (r := r) with e | ⟨c, e, hc, zc⟩
        · rw [e]; simp; exact .inl rfl
        · obtain ⟨d, hd, d1, d2⟩ := out_zy hs.tl hz e
          rw [hd, e]
          rcases ri_out (x := y) (r := (ri r z).1) with e2 | ⟨d', e2, hd', yd⟩
          · rw [e2] at hd; simp at hd
          · rw [hd] at e2
            obtain rfl : d = d' := by simpa using e2
            have ad : a ≤ d := by
              rcases ri_mem hd' with rfl | m
              · omega
              · exact hs.hd d m
            exact .inr (.inl (by simpa using Kt.a ad (show d < c by omega)))
    · have z1 : ¬ z < a := by omega
      have y1 : ¬ y < a := by omega
      have ih := row_a hx hz (r := r) hs.tl
      rw [rwd3, rwd3] at ih
      simp only [ri_ge _ q, ri_ge _ z1, ri_ge _ y1]
      exact ⟨by rw [ih.1], ih.2⟩
theorem row_b {x y z : Int} (hx : x < y) (hz : y ≤ z) : ∀ {r : List Int}, Srt r → (rwd r [z, x, y]).1 = (rwd r [x, z, y]).1 ∧ KO (rwd r [z, x, y]).2 (rwd r [x, z, y]).2
  | [], _ => by
    have h1 : ¬ z < x := by omega
    have h2 : ¬ z < y := by omega
    rw [rwd3, rwd3]
    simp [ri, h1, h2, hx]
    exact .inl rfl
  | a :: r, hs => by
    rw [rwd3, rwd3]
    have z2 : ¬ z < y := by omega
    have z3 : ¬ z < x := by omega
    by_cases q : y < a
    · rw [ri_lt r q]
      simp only [ri_lt _ hx, ri_ge _ z2]
      rw [ri_ge _ z3]
      refine ⟨rfl, ?_⟩
      rcases ri_out (x := z) (r := r) with e | ⟨c, e, hc, zc⟩
      · rw [e]; simp; exact .inl rfl
      · rw [e]
        have := hs.hd c hc
        exact .inr (.inl (by simpa using Kt.b q this))
    · by_cases w : x < a
      · rw [ri_ge r q]
        have z1 : ¬ z < a := by omega
        simp only [ri_lt _ w, ri_ge _ z1]
        rw [ri_ge _ z3]
        refine ⟨rfl, ?_⟩
        rcases ri_out (x := z) (r := (ri r y).1) with e | ⟨c, e, hc, zc⟩
        · rw [e]; simp; exact .inl rfl
        · obtain ⟨b, hb, b1, b2⟩ := out_yz hs.tl hz e
          rw [e, hb]
          have ab : a < b := by omega
          exact .inr (.inl (by simpa using Kt.b ab b1))
      · have z1 : ¬ z < a := by omega
        have ih := row_b hx hz (r := r) hs.tl
        rw [rwd3, rwd3] at ih
        simp only [ri_ge _ q, ri_ge _ w, ri_ge _ z1]
        exact ⟨by rw [ih.1], ih.2⟩
end DL
namespace DL
/-! ### bumping row by row -/
theorem gts_cons (x a : Int) (r : List Int) : gts x (a :: r) = (if x < a then [0] else []) ++ (gts x r).map (· + 1) := by
  have e : ∀ l : List Nat, (l.map (· + 1)).filter (fun j => decide (x < itAt (a :: r) j)) = (l.filter fun j => decide (x < itAt r j)).map (· + 1) := by
    intro l
    induction l with
    | nil => rfl
    | cons j l ih =>
      have : itAt (a :: r) (j + 1) = itAt r j := by unfold itAt; simp
      rw [List.map_cons, List.filter_cons, List.filter_cons, this, ih]
      split <;> simp
  unfold gts
  rw [List.length_cons, List.range_succ_eq_map, List.filter_cons]
  have h0 : itAt (a :: r) 0 = a := rfl
  rw [h0]
  have e' := e (List.range r.length)
  rw [show (List.range r.length).map Nat.succ = (List.range r.length).map (· + 1) from rfl, e']
  by_cases c : x < a
  · simp [c]
  · simp [c]
theorem ri_gts (x : Int) : ∀ r : List Int, (gts x r = [] → ri r x = (r ++ [x], [])) ∧ ∀ k t, gts x r = k :: t → ri r x = (r.set k x, [itAt r k])
  | [] => ⟨fun _ => rfl, fun k t h => by simp [gts] at h⟩
  | a :: r => by
    obtain ⟨h1, h2⟩ := ri_gts x r
    rw [gts_cons]
    by_cases c : x < a
    · rw [if_pos c, ri_lt r c]
      refine ⟨fun h => by simp at h, fun k t h => ?_⟩
      simp at h
      obtain ⟨rfl, -⟩ := h
      rfl
    · rw [if_neg c, ri_ge r c, List.nil_append]
      refine ⟨fun h => ?_, fun k t h => ?_⟩
      · rw [h1 (by simpa using h)]; rfl
      · cases e : gts x r with
        | nil => rw [e] at h; simp at h
        | cons k' t' =>
          rw [e] at h
          simp at h
          obtain ⟨rfl, -⟩ := h
          rw [h2 k' t' e]
          simp [itAt]
theorem bump_no {r : List Int} {x : Int} (rs : List (List Int)) (h : (ri r x).2 = []) : bumpL (r :: rs) x = ((ri r x).1 :: rs, 0) := by
  cases e : gts x r with
  | nil => rw [bumpL_stop e, (ri_gts x r).1 e]
  | cons k t => rw [(ri_gts x r).2 k t e] at h; simp at h
theorem bump_on {r : List Int} {x c : Int} (rs : List (List Int)) (h : (ri r x).2 = [c]) : bumpL (r :: rs) x = ((ri r x).1 :: (bumpL rs c).1, (bumpL rs c).2 + 1) := by
  cases e : gts x r with
  | nil => rw [(ri_gts x r).1 e] at h; simp at h
  | cons k t =>
    rw [(ri_gts x r).2 k t e] at h
    obtain rfl : itAt r k = c := by simpa using h
    rw [bumpL_on e, (ri_gts x r).2 k t e]
/-- the letters of a word into a tableau, the last one first -/
def insW (T : List (List Int)) : List Int → List (List Int)
  | [] => T
  | a :: w => (bumpL (insW T w) a).1
def pL (w : List Int) : List (List Int) := insW [] w
theorem pL_pair : ∀ w : List Int, (pairL w).1 = pL w
  | [] => rfl
  | a :: w => by rw [pairL, pL_pair w]; rfl
theorem insW_app (T : List (List Int)) (v : List Int) : ∀ u : List Int, insW T (u ++ v) = insW (insW T v) u
  | [] => rfl
  | a :: u => by rw [List.cons_append, insW, insW_app T v u]; rfl
theorem insW_cons (r : List Int) (rs : List (List Int)) : ∀ w : List Int, insW (r :: rs) w = (rwd r w).1 :: insW rs (rwd r w).2
  | [] => rfl
  | a :: w => by
    rw [insW, insW_cons r rs w, rwd]
    rcases ri_out (r := (rwd r w).1) (x := a) with e | ⟨c, e, -, -⟩
    · rw [bump_no _ e, e]; rfl
    · rw [bump_on _ e, e]; rfl
theorem insW_nil : ∀ w : List Int, w ≠ [] → insW [] w = insW [[]] w
  | [], h => absurd rfl h
  | [a], _ => rfl
  | a :: b :: w, _ => by
    rw [insW, insW_nil (b :: w) (by simp)]
    rfl
theorem pL_cons {w : List Int} (h : w ≠ []) : pL w = (rwd [] w).1 :: pL (rwd [] w).2 := by
  unfold pL
  rw [insW_nil w h, insW_cons]
theorem ri_len {x : Int} : ∀ {r : List Int}, (ri r x).1.length + (ri r x).2.length = r.length + 1
  | [] => rfl
  | a :: r => by
    by_cases c : x < a
    · rw [ri_lt r c]; rfl
    · rw [ri_ge r c]
      have := ri_len (x := x) (r := r)
      simp only [List.length_cons]; omega
theorem rwd_len (r : List Int) : ∀ w : List Int, (rwd r w).1.length + (rwd r w).2.length = r.length + w.length
  | [] => rfl
  | a :: w => by
    have h1 := rwd_len r w
    have h2 := ri_len (x := a) (r := (rwd r w).1)
    rw [rwd]
    simp only [List.length_append, List.length_cons]; omega
theorem ri_ne {r : List Int} {x : Int} : (ri r x).1 ≠ [] := fun e => by
  have := ri_in (x := x) (r := r)
  rw [e] at this
  simp at this
theorem rwd_srt {r : List Int} (h : Srt r) : ∀ w : List Int, Srt (rwd r w).1
  | [] => h
  | a :: w => by rw [rwd]; exact ri_srt (rwd_srt h w)
theorem rwd_ne {w : List Int} (r : List Int) (h : w ≠ []) : (rwd r w).1 ≠ [] := by
  cases w with
  | nil => exact absurd rfl h
  | cons a w => rw [rwd]; exact ri_ne
theorem srt_nil : Srt [] := List.Pairwise.nil
def SrtT (T : List (List Int)) : Prop := ∀ r ∈ T, Srt r
theorem SrtT.tl {r : List Int} {T : List (List Int)} (h : SrtT (r :: T)) : SrtT T := fun q hq => h q (List.mem_cons_of_mem _ hq)
theorem SrtT.hd {r : List Int} {T : List (List Int)} (h : SrtT (r :: T)) : Srt r := h r List.mem_cons_self
theorem srtT_nil : SrtT [] := fun q hq => by cases hq
theorem bump_srt : ∀ {T : List (List Int)} {x : Int}, SrtT T → SrtT (bumpL T x).1
  | [], x, h => fun q hq => by
    rw [bumpL] at hq
    rw [List.mem_singleton.mp hq]
    exact List.pairwise_singleton _ _
  | r :: T, x, h => by
    rcases ri_out (r := r) (x := x) with e | ⟨c, e, -, -⟩
    · rw [bump_no _ e]
      intro q hq
      rcases List.mem_cons.mp hq with rfl | hq
      · exact ri_srt h.hd
      · exact h.tl q hq
    · rw [bump_on _ e]
      intro q hq
      rcases List.mem_cons.mp hq with rfl | hq
      · exact ri_srt h.hd
      · exact bump_srt h.tl q hq
theorem insW_srt {T : List (List Int)} (h : SrtT T) : ∀ w : List Int, SrtT (insW T w)
  | [] => h
  | a :: w => bump_srt (insW_srt h w)
theorem kt_len {t t' : List Int} (h : Kt t t') : t.length = 3 ∧ t'.length = 3 := by cases h <;> exact ⟨rfl, rfl⟩
theorem row_kt {t t' : List Int} (h : Kt t t') {r : List Int} (hs : Srt r) : (rwd r t).1 = (rwd r t').1 ∧ KO (rwd r t).2 (rwd r t').2 := by
  cases h with
  | a h1 h2 => exact row_a h1 h2 hs
  | b h1 h2 => exact row_b h1 h2 hs
theorem ins_kt : ∀ {T : List (List Int)} {t t' : List Int}, SrtT T → Kt t t' → insW T t = insW T t'
  | [], t, t', _, h => by
    obtain ⟨l1, l2⟩ := kt_len h
    have n1 : t ≠ [] := fun e => by rw [e] at l1; simp at l1
    have n2 : t' ≠ [] := fun e => by rw [e] at l2; simp at l2
    rw [insW_nil t n1, insW_nil t' n2, insW_cons, insW_cons]
    obtain ⟨a1, a2⟩ := row_kt h srt_nil
    have s : ∀ {u : List Int}, u ≠ [] → u.length = 3 → (rwd [] u).2.length ≤ 2 := fun {u} hu hl => by
      have h1 := rwd_len [] u
      have h2 : (rwd [] u).1.length ≠ 0 := fun e => rwd_ne [] hu (List.length_eq_zero_iff.mp e)
      rw [hl] at h1
      simp at h1
      omega
    have s1 := s n1 l1
    have s2 := s n2 l2
    rcases a2 with a2 | a2 | a2
    · rw [a1, a2]
    · have := (kt_len a2).1; omega
    · have := (kt_len a2).1; omega
  | r :: T, t, t', hT, h => by
    obtain ⟨a1, a2⟩ := row_kt h hT.hd
    rw [insW_cons, insW_cons, a1]
    rcases a2 with a2 | a2 | a2
    · rw [a2]
    · rw [ins_kt hT.tl a2]
    · rw [ins_kt hT.tl a2]
/-- steps of Knuth, any number of them, both ways -/
inductive K : List Int → List Int → Prop
  | refl (u : List Int) : K u u
  | step (u v : List Int) {t t' : List Int} : Kt t t' → K (u ++ (t ++ v)) (u ++ (t' ++ v))
  | symm {u v : List Int} : K u v → K v u
  | trans {u v w : List Int} : K u v → K v w → K u w
theorem K.of_eq {u v : List Int} (h : u = v) : K u v := h ▸ .refl u
theorem K.ctx {s s' : List Int} (h : K s s') : ∀ (u v : List Int), K (u ++ (s ++ v)) (u ++ (s' ++ v)) := by
  induction h with
  | refl w => exact fun u v => .refl _
  | step u' v' k =>
    intro u v
    have := K.step (u ++ u') (v' ++ v) k
    simpa using this
  | symm _ ih => exact fun u v => (ih u v).symm
  | trans _ _ ih1 ih2 => exact fun u v => (ih1 u v).trans (ih2 u v)
theorem K.left {s s' : List Int} (h : K s s') (v : List Int) : K (s ++ v) (s' ++ v) := h.ctx [] v
theorem K.right {s s' : List Int} (h : K s s') (u : List Int) : K (u ++ s) (u ++ s') := by
  have := h.ctx u []
  simpa using this
/-- words that steps lead to one another have one tableau -/
theorem K.pL {u v : List Int} (h : K u v) : pL u = pL v := by
  induction h with
  | refl _ => rfl
  | step u v k =>
    unfold DL.pL
    rw [insW_app, insW_app [] (_ ++ v), insW_app, insW_app [] v, ins_kt (insW_srt srtT_nil v) k]
  | symm _ ih => exact ih.symm
  | trans _ _ h1 h2 => exact h1.trans h2
theorem K.perm {u v : List Int} (h : K u v) : List.Perm u v := by
  induction h with
  | refl _ => exact .refl _
  | step u v k =>
    refine List.Perm.append_left u (List.Perm.append_right v ?_)
    cases k with
    | a _ _ => exact List.Perm.cons _ (List.Perm.swap _ _ _)
    | b _ _ => exact List.Perm.swap _ _ _
  | symm _ ih => exact ih.symm
  | trans _ _ h1 h2 => exact h1.trans h2
theorem K.len {u v : List Int} (h : K u v) : u.length = v.length := h.perm.length_eq
/-- without the lesser letters -/
theorem K.cut {u v : List Int} (m : Int) (h : K u v) : K (u.filter fun a => decide (m ≤ a)) (v.filter fun a => decide (m ≤ a)) := by
  induction h with
  | refl _ => exact .refl _
  | @step u v t t' k =>
    rw [List.filter_append, List.filter_append, List.filter_append, List.filter_append]
    refine K.ctx ?_ _ _
    cases k with
    | @a x y z h1 h2 =>
      by_cases c : m ≤ x
      · have c1 : m ≤ y := by omega
        have c2 : m ≤ z := by omega
        simp only [List.filter_cons, List.filter_nil, c, c1, c2, decide_true, if_true]
        exact K.step [] [] (.a h1 h2)
      · refine .of_eq ?_
        simp [List.filter_cons, c]
    | @b x y z h1 h2 =>
      by_cases c : m ≤ x
      · have c1 : m ≤ y := by omega
        have c2 : m ≤ z := by omega
        simp only [List.filter_cons, List.filter_nil, c, c1, c2, decide_true, if_true]
        exact K.step [] [] (.b h1 h2)
      · refine .of_eq ?_
        simp [List.filter_cons, c]
  | symm _ ih => exact ih.symm
  | trans _ _ h1 h2 => exact h1.trans h2
/-! ### a letter into a row, as steps -/
theorem k_past {x : Int} : ∀ {s : List Int} {b : Int}, Srt s → (∀ c ∈ s, b ≤ c) → x < b → K (x :: (s.reverse ++ [b])) (s.reverse ++ [x, b])
  | [], b, _, _, _ => .refl _
  | c :: s, b, hs, hb, h => by
    have hc := hb c List.mem_cons_self
    have ih := k_past (x := x) (s := s) (b := c) hs.tl (fun d hd => hs.hd d hd) (by omega)
    have k := K.step s.reverse [] (Kt.b h hc)
    rw [List.reverse_cons]
    refine (K.left ih [b]).trans ?_ |> fun e => by simpa using e
    simpa using k.symm
theorem k_ri {x : Int} : ∀ {r : List Int}, Srt r → K (x :: r.reverse) ((ri r x).1.reverse ++ (ri r x).2)
  | [], _ => .refl _
  | a :: r, hs => by
    by_cases c : x < a
    · rw [ri_lt r c]
      have := k_past (x := x) (s := r) (b := a) hs.tl (fun d hd => hs.hd d hd) c
      simpa using this
    · rw [ri_ge r c]
      have ih := (k_ri (x := x) (r := r) hs.tl).left [a]
      rcases ri_out (r := r) (x := x) with e | ⟨d, e, hd, xd⟩
      · rw [e] at ih ⊢
        simpa using ih
      · rw [e] at ih ⊢
        have hin := ri_in (x := x) (r := r)
        cases q : (ri r x).1 with
        | nil => rw [q] at hin; simp at hin
        | cons f R =>
          rw [q] at ih
          have sr := ri_srt (x := x) hs.tl
          rw [q] at sr hin
          have fx : f ≤ x := by
            rcases List.mem_cons.mp hin with e | m
            · omega
            · exact sr.hd x m
          have af : a ≤ f := by
            have : f ∈ (ri r x).1 := by rw [q]; exact List.mem_cons_self
            rcases ri_mem this with rfl | m
            · omega
            · exact hs.hd f m
          have k := K.step R.reverse [] (Kt.a af (show f < d by omega))
          refine (show K _ _ from by simpa using ih).trans ?_
          simpa using k
/-- the reading of rows -/
def rd : List (List Int) → List Int
  | [] => []
  | r :: T => r.reverse ++ rd T
theorem k_bump : ∀ {T : List (List Int)} {x : Int}, SrtT T → K (x :: rd T) (rd (bumpL T x).1)
  | [], x, _ => .refl _
  | r :: T, x, h => by
    have k := (k_ri (x := x) h.hd).left (rd T)
    rcases ri_out (r := r) (x := x) with e | ⟨c, e, -, -⟩
    · rw [bump_no _ e]
      rw [e] at k
      simpa [rd] using k
    · rw [bump_on _ e]
      rw [e] at k
      have k2 := (k_bump (T := T) (x := c) h.tl).right (ri r x).1.reverse
      refine (show K _ _ from by simpa [rd] using k).trans ?_
      simpa [rd] using k2
theorem k_rd : ∀ w : List Int, K w (rd (pL w))
  | [] => .refl _
  | a :: w => ((k_rd w).right [a]).trans (k_bump (insW_srt srtT_nil w))
/-- the theorem of Knuth -/
theorem k_iff {u v : List Int} : K u v ↔ pL u = pL v := ⟨K.pL, fun h => (k_rd u).trans (by rw [h]; exact (k_rd v).symm)⟩
end DL
namespace DL
/-! ### the pairing, plain -/
def ug (i : Int) : Nat → List Int → List Nat → List Nat → List Nat × List Nat
  | _, [], hi, lo => (hi, lo)
  | k, x :: w, hi, lo => if x = i then ug i (k + 1) w hi (lo ++ [k]) else if x = i + 1 then (if lo = [] then ug i (k + 1) w (hi ++ [k]) lo else ug i (k + 1) w hi lo.dropLast) else ug i (k + 1) w hi lo
def upr (w : List Int) (i : Int) : List Nat × List Nat := ug i 0 w [] []
/-- another letter at a place -/
def wl (w : List Int) (p : Nat) (x : Int) : List Int := w.take p ++ [x] ++ w.drop (p + 1)
theorem wl_len (w : List Int) (p : Nat) (x : Int) : (wl w p x).length ≤ w.length + 1 := by
  unfold wl; simp; omega
def raise (w : List Int) (i : Int) : Option (List Int) := match (upr w i).1.getLast? with
  | none => none
  | some p => some (wl w p i)
def lower (w : List Int) (i : Int) : Option (List Int) := match (upr w i).2 with
  | [] => none
  | p :: _ => some (wl w p (i + 1))
theorem ug_cons (i : Int) (k : Nat) (x : Int) (w : List Int) (hi lo : List Nat) : ug i k (x :: w) hi lo = if x = i then ug i (k + 1) w hi (lo ++ [k]) else if x = i + 1 then (if lo = [] then ug i (k + 1) w (hi ++ [k]) lo else ug i (k + 1) w hi lo.dropLast) else ug i (k + 1) w hi lo := rfl
theorem ug_app (i : Int) : ∀ (u w : List Int) (k : Nat) (hi lo : List Nat), ug i k (u ++ w) hi lo = ug i (k + u.length) w (ug i k u hi lo).1 (ug i k u hi lo).2
  | [], w, k, hi, lo => rfl
  | x :: u, w, k, hi, lo => by
    rw [List.cons_append, List.length_cons, show k + (u.length + 1) = k + 1 + u.length by omega, ug_cons, ug_cons i k x u]
    split
    · exact ug_app i u w (k + 1) hi (lo ++ [k])
    · split
      · split
        · exact ug_app i u w (k + 1) (hi ++ [k]) lo
        · exact ug_app i u w (k + 1) hi lo.dropLast
      · exact ug_app i u w (k + 1) hi lo
theorem ug_shift (i : Int) (d : Nat) : ∀ (w : List Int) (k : Nat) (hi lo : List Nat), ug i (k + d) w (hi.map (· + d)) (lo.map (· + d)) = ((ug i k w hi lo).1.map (· + d), (ug i k w hi lo).2.map (· + d))
  | [], k, hi, lo => rfl
  | x :: w, k, hi, lo => by
    have e1 : k + d + 1 = k + 1 + d := by omega
    unfold ug
    split
    · have := ug_shift i d w (k + 1) hi (lo ++ [k])
      rw [List.map_append] at this
      rw [e1]
      exact this
    · split
      · by_cases c : lo = []
        · subst c
          rw [List.map_nil, if_pos rfl, if_pos rfl]
          have := ug_shift i d w (k + 1) (hi ++ [k]) []
          rw [List.map_append] at this
          rw [e1]
          exact this
        · rw [if_neg (by simpa using c), if_neg c, ← List.map_dropLast, e1]
          exact ug_shift i d w (k + 1) hi lo.dropLast
      · rw [e1]
        exact ug_shift i d w (k + 1) hi lo
/-- one letter more -/
theorem ug_snoc (i : Int) (k : Nat) (u : List Int) (x : Int) (hi lo : List Nat) : ug i k (u ++ [x]) hi lo = if x = i then ((ug i k u hi lo).1, (ug i k u hi lo).2 ++ [k + u.length]) else if x = i + 1 then (if (ug i k u hi lo).2 = [] then ((ug i k u hi lo).1 ++ [k + u.length], (ug i k u hi lo).2) else ((ug i k u hi lo).1, (ug i k u hi lo).2.dropLast)) else ((ug i k u hi lo).1, (ug i k u hi lo).2) := by
  rw [ug_app]
  show (if x = i then _ else _) = _
  split
  · rfl
  · split
    · split <;> rfl
    · rfl
/-- from letters that wait -/
theorem ug_gen (i : Int) (k : Nat) (hi lo : List Nat) (w : List Int) : ug i k w hi lo = (hi ++ (ug i k w [] []).1.drop lo.length, lo.take (lo.length - (ug i k w [] []).1.length) ++ (ug i k w [] []).2) := by
  induction h : w.length generalizing w with
  | zero =>
    obtain rfl := List.length_eq_zero_iff.mp h
    show (hi, lo) = (hi ++ [].drop lo.length, lo.take (lo.length - 0) ++ [])
    simp
  | succ m ih =>
    obtain ⟨u, x, rfl⟩ : ∃ u x, w = u ++ [x] := by
      rcases List.eq_nil_or_concat w with rfl | ⟨l, b, rfl⟩
      · simp at h
      · exact ⟨l, b, by simp⟩
    have ih := ih u (by simpa using h)
    rw [ug_snoc, ug_snoc i k u x [] [], ih]
    generalize (ug i k u [] []).1 = H
    generalize (ug i k u [] []).2 = L
    by_cases c1 : x = i
    · simp only [if_pos c1, List.append_assoc]
    · simp only [if_neg c1]
      by_cases c2 : x = i + 1
      · simp only [if_pos c2]
        by_cases c3 : L = []
        · subst c3
          simp only [List.append_nil, if_true]
          by_cases c4 : lo.length ≤ H.length
          · have e1 : lo.take (lo.length - H.length) = [] := by rw [show lo.length - H.length = 0 by omega]; rfl
            have e2 : lo.take (lo.length - (H ++ [k + u.length]).length) = [] := by rw [show lo.length - (H ++ [k + u.length]).length = 0 by rw [List.length_append]; simp; omega]; rfl
            rw [e1, e2, if_pos rfl, List.drop_append_of_le_length c4, List.append_assoc]
          · have ne : lo.take (lo.length - H.length) ≠ [] := fun e => by
              have := congrArg List.length e
              rw [List.length_take] at this
              simp at this
              omega
            rw [if_neg ne, List.drop_eq_nil_of_le (by omega), List.drop_eq_nil_of_le (by rw [List.length_append]; simp; omega), List.dropLast_eq_take, List.take_take, List.length_take]
            rw [show (H ++ [k + u.length]).length = H.length + 1 by simp, show min (min (lo.length - H.length) lo.length - 1) (lo.length - H.length) = lo.length - (H.length + 1) by omega]
        · have ne : lo.take (lo.length - H.length) ++ L ≠ [] := fun e => c3 (List.append_eq_nil_iff.mp e).2
          rw [if_neg c3, if_neg ne, List.dropLast_append_of_ne_nil c3]
      · simp only [if_neg c2]
theorem upr_app (A B : List Int) (i : Int) : upr (A ++ B) i = ((upr A i).1 ++ ((upr B i).1.drop (upr A i).2.length).map (· + A.length), (upr A i).2.take ((upr A i).2.length - (upr B i).1.length) ++ (upr B i).2.map (· + A.length)) := by
  unfold upr
  rw [ug_app, ug_gen]
  have s := ug_shift i A.length B 0 [] []
  rw [List.map_nil] at s
  rw [s]
  simp only [List.length_map, List.map_drop]
/-- places lie within -/
theorem ug_bd (i : Int) : ∀ (w : List Int) (k : Nat) (hi lo : List Nat) (n : Nat), (∀ p ∈ hi, p < n) → (∀ p ∈ lo, p < n) → k + w.length ≤ n → (∀ p ∈ (ug i k w hi lo).1, p < n) ∧ ∀ p ∈ (ug i k w hi lo).2, p < n
  | [], k, hi, lo, n, h1, h2, _ => ⟨h1, h2⟩
  | x :: w, k, hi, lo, n, h1, h2, hn => by
    rw [List.length_cons] at hn
    have one : ∀ l : List Nat, (∀ p ∈ l, p < n) → ∀ p ∈ l ++ [k], p < n := fun l hl p hp => by
      rcases List.mem_append.mp hp with hp | hp
      · exact hl p hp
      · rw [List.mem_singleton.mp hp]; omega
    unfold ug
    split
    · exact ug_bd i w (k + 1) hi _ n h1 (one lo h2) (by omega)
    · split
      · split
        · exact ug_bd i w (k + 1) _ lo n (one hi h1) h2 (by omega)
        · exact ug_bd i w (k + 1) hi _ n h1 (fun p hp => h2 p ((List.dropLast_sublist _).subset hp)) (by omega)
      · exact ug_bd i w (k + 1) hi lo n h1 h2 (by omega)
theorem upr_bd (w : List Int) (i : Int) : (∀ p ∈ (upr w i).1, p < w.length) ∧ ∀ p ∈ (upr w i).2, p < w.length := ug_bd i w 0 [] [] w.length (by simp) (by simp) (by omega)
theorem wl_set {w : List Int} {p : Nat} (x : Int) (h : p < w.length) : wl w p x = w.set p x := by
  unfold wl
  rw [List.set_eq_take_append_cons_drop, if_pos h]
  simp
theorem wl_left {A : List Int} {p : Nat} (B : List Int) (x : Int) (h : p < A.length) : wl (A ++ B) p x = wl A p x ++ B := by
  rw [wl_set x h, wl_set x (by rw [List.length_append]; omega), List.set_append_left _ _ h]
theorem wl_right (A : List Int) {B : List Int} {p : Nat} (x : Int) (h : p < B.length) : wl (A ++ B) (p + A.length) x = A ++ wl B p x := by
  rw [wl_set x h, wl_set x (by rw [List.length_append]; omega), List.set_append_right _ _ (by omega), Nat.add_sub_cancel]
/-- numbers of unpaired letters -/
def ep (w : List Int) (i : Int) : Nat := (upr w i).1.length
def ph (w : List Int) (i : Int) : Nat := (upr w i).2.length
theorem ep_app (A B : List Int) (i : Int) : ep (A ++ B) i = ep A i + (ep B i - ph A i) := by
  unfold ep ph
  rw [upr_app]
  simp
theorem raise_app (A B : List Int) (i : Int) : raise (A ++ B) i = if ph A i < ep B i then (raise B i).map (A ++ ·) else (raise A i).map (· ++ B) := by
  unfold raise ph ep
  rw [upr_app]
  simp only
  have bA := (upr_bd A i).1
  have bB := (upr_bd B i).1
  generalize (upr A i).2 = LA
  generalize (upr A i).1 = HA at *
  generalize (upr B i).1 = HB at *
  by_cases c : LA.length < HB.length
  · rw [if_pos c]
    rcases List.eq_nil_or_concat HB with rfl | ⟨l, b, rfl⟩
    · simp at c
    · rw [List.concat_eq_append] at *
      have hl : LA.length ≤ l.length := by rw [List.length_append, List.length_singleton] at c; omega
      rw [List.drop_append_of_le_length hl, List.map_append, ← List.append_assoc]
      rw [List.getLast?_append, List.getLast?_append]
      simp only [List.map_cons, List.map_nil, List.getLast?_singleton, Option.some_or, Option.map_some]
      rw [wl_right A i (bB b (by simp))]
      simp
  · rw [if_neg c, List.drop_eq_nil_of_le (by omega), List.map_nil, List.append_nil]
    cases e : HA.getLast? with
    | none => rfl
    | some p =>
      have := bA p (List.mem_of_getLast? e)
      simp only [Option.map_some]
      rw [wl_left B i this]
theorem lower_app (A B : List Int) (i : Int) : lower (A ++ B) i = if ep B i < ph A i then (lower A i).map (· ++ B) else (lower B i).map (A ++ ·) := by
  unfold lower ph ep
  rw [upr_app]
  simp only
  have bA := (upr_bd A i).2
  have bB := (upr_bd B i).2
  generalize (upr B i).1 = HB
  generalize (upr A i).2 = LA at *
  generalize (upr B i).2 = LB at *
  by_cases c : HB.length < LA.length
  · rw [if_pos c]
    cases LA with
    | nil => simp at c
    | cons p r =>
      rw [List.length_cons] at *
      rw [show r.length + 1 - HB.length = (r.length - HB.length) + 1 by omega, List.take_succ_cons, List.cons_append]
      simp only [Option.map_some]
      rw [wl_left B (i + 1) (bA p (by simp))]
  · rw [if_neg c, show LA.length - HB.length = 0 by omega, List.take_zero, List.nil_append]
    cases LB with
    | nil => rfl
    | cons p r =>
      rw [List.map_cons]
      simp only [Option.map_some]
      rw [wl_right A (i + 1) (bB p (by simp))]
/-! ### words in a row -/
def epL (i : Int) : List (List Int) → Nat
  | [] => 0
  | w :: r => ep w i + (epL i r - ph w i)
def rW (i : Int) : List (List Int) → Option (List (List Int))
  | [] => none
  | w :: r => if ph w i < epL i r then (rW i r).map (w :: ·) else (raise w i).map (· :: r)
def lW (i : Int) : List (List Int) → Option (List (List Int))
  | [] => none
  | w :: r => if epL i r < ph w i then (lower w i).map (· :: r) else (lW i r).map (w :: ·)
theorem ep_flat (i : Int) : ∀ ws : List (List Int), ep ws.flatten i = epL i ws
  | [] => rfl
  | w :: r => by
    rw [List.flatten_cons, ep_app, ep_flat i r]
    rfl
theorem raise_flat (i : Int) : ∀ ws : List (List Int), raise ws.flatten i = (rW i ws).map List.flatten
  | [] => rfl
  | w :: r => by
    have e : rW i (w :: r) = if ph w i < epL i r then (rW i r).map (w :: ·) else (raise w i).map (· :: r) := rfl
    rw [List.flatten_cons, raise_app, ep_flat, raise_flat i r, e]
    split
    · cases rW i r <;> rfl
    · cases raise w i <;> rfl
theorem lower_flat (i : Int) : ∀ ws : List (List Int), lower ws.flatten i = (lW i ws).map List.flatten
  | [] => rfl
  | w :: r => by
    have e : lW i (w :: r) = if epL i r < ph w i then (lower w i).map (· :: r) else (lW i r).map (w :: ·) := rfl
    rw [List.flatten_cons, lower_app, ep_flat, lower_flat i r, e]
    split
    · cases lower w i <;> rfl
    · cases lW i r <;> rfl
end DL
namespace DL
/-! ### raising and lowering go with the steps of Knuth -/
theorem upr_one (a i : Int) : upr [a] i = if a = i then ([], [0]) else if a = i + 1 then ([0], []) else ([], []) := by
  unfold upr ug
  split
  · rfl
  · split
    · rfl
    · rfl
theorem ep_one (a i : Int) : ep [a] i = if a = i + 1 then 1 else 0 := by
  unfold ep
  rw [upr_one]
  split
  · rw [if_neg (by omega)]; rfl
  · split <;> rfl
theorem ph_one (a i : Int) : ph [a] i = if a = i then 1 else 0 := by
  unfold ph
  rw [upr_one]
  split
  · rfl
  · split <;> rfl
theorem raise_one (a i : Int) : raise [a] i = if a = i + 1 then some [i] else none := by
  unfold raise
  rw [upr_one]
  by_cases c : a = i
  · have n : ¬ a = i + 1 := by omega
    rw [if_pos c, if_neg n]
    rfl
  · rw [if_neg c]
    by_cases d : a = i + 1
    · rw [if_pos d, if_pos d]; rfl
    · rw [if_neg d, if_neg d]; rfl
theorem lower_one (a i : Int) : lower [a] i = if a = i then some [i + 1] else none := by
  unfold lower
  rw [upr_one]
  by_cases c : a = i
  · rw [if_pos c, if_pos c]; rfl
  · rw [if_neg c, if_neg c]
    by_cases d : a = i + 1
    · rw [if_pos d]
    · rw [if_neg d]
theorem ph_app (A B : List Int) (i : Int) : ph (A ++ B) i = (ph A i - ep B i) + ph B i := by
  unfold ep ph
  rw [upr_app]
  simp
theorem raise_cons (a : Int) (w : List Int) (i : Int) : raise (a :: w) i = if (if a = i then 1 else 0) < ep w i then (raise w i).map (a :: ·) else if a = i + 1 then some (i :: w) else none := by
  have := raise_app [a] w i
  rw [List.singleton_append, ph_one, raise_one] at this
  rw [this]
  by_cases c : a = i + 1 <;> simp [c]
theorem lower_cons (a : Int) (w : List Int) (i : Int) : lower (a :: w) i = if ep w i < (if a = i then 1 else 0) then some ((i + 1) :: w) else (lower w i).map (a :: ·) := by
  have := lower_app [a] w i
  rw [List.singleton_append, ph_one, lower_one] at this
  rw [this]
  by_cases c : a = i
  · simp [c]
  · simp [c]
theorem ep_cons (a : Int) (w : List Int) (i : Int) : ep (a :: w) i = (if a = i + 1 then 1 else 0) + (ep w i - if a = i then 1 else 0) := by
  have := ep_app [a] w i
  rw [List.singleton_append, ph_one, ep_one] at this
  exact this
theorem ph_cons (a : Int) (w : List Int) (i : Int) : ph (a :: w) i = ((if a = i then 1 else 0) - ep w i) + ph w i := by
  have := ph_app [a] w i
  rw [List.singleton_append, ph_one] at this
  exact this
@[simp] theorem ep_nil (i : Int) : ep [] i = 0 := rfl
@[simp] theorem ph_nil (i : Int) : ph [] i = 0 := rfl
@[simp] theorem raise_nil (i : Int) : raise [] i = none := rfl
@[simp] theorem lower_nil (i : Int) : lower [] i = none := rfl
/-- both none, or both some, with steps between them -/
def OK2 (a b : Option (List Int)) : Prop := (a = none ∧ b = none) ∨ ∃ u v, a = some u ∧ b = some v ∧ K u v
theorem kk {u v : List Int} (h : Kt u v) : K u v := by
  have := K.step [] [] h
  simpa using this
theorem kt_ep {t t' : List Int} (h : Kt t t') (i : Int) : ep t i = ep t' i ∧ ph t i = ph t' i := by
  cases h with
  | @a x y z h1 h2 =>
    simp only [ep_cons, ph_cons, ep_nil, ph_nil]
    by_cases a1 : x = i <;> by_cases a2 : x = i + 1 <;> by_cases b1 : y = i <;> by_cases b2 : y = i + 1 <;> by_cases c1 : z = i <;> by_cases c2 : z = i + 1 <;> first | (exfalso; omega) | simp [a1, a2, b1, b2, c1, c2, show ¬ i = i + 1 by omega, show ¬ i + 1 = i by omega]
  | @b x y z h1 h2 =>
    simp only [ep_cons, ph_cons, ep_nil, ph_nil]
    by_cases a1 : x = i <;> by_cases a2 : x = i + 1 <;> by_cases b1 : y = i <;> by_cases b2 : y = i + 1 <;> by_cases c1 : z = i <;> by_cases c2 : z = i + 1 <;> first | (exfalso; omega) | simp [a1, a2, b1, b2, c1, c2, show ¬ i = i + 1 by omega, show ¬ i + 1 = i by omega]
theorem kt_raise {t t' : List Int} (h : Kt t t') (i : Int) : OK2 (raise t i) (raise t' i) := by
  cases h with
  | @a x y z h1 h2 =>
    simp only [raise_cons, ep_cons, ph_cons, ep_nil, ph_nil, raise_nil]
    by_cases a1 : x = i <;> by_cases a2 : x = i + 1 <;> by_cases b1 : y = i <;> by_cases b2 : y = i + 1 <;> by_cases c1 : z = i <;> by_cases c2 : z = i + 1 <;> first | (exfalso; omega) | (simp [a1, a2, b1, b2, c1, c2, OK2, show ¬ i = i + 1 by omega, show ¬ i + 1 = i by omega]; try first | exact K.refl _ | exact kk (.a (by omega) (by omega)) | exact kk (.b (by omega) (by omega)) | exact (kk (.a (by omega) (by omega))).symm | exact (kk (.b (by omega) (by omega))).symm)
  | @b x y z h1 h2 =>
    simp only [raise_cons, ep_cons, ph_cons, ep_nil, ph_nil, raise_nil]
    by_cases a1 : x = i <;> by_cases a2 : x = i + 1 <;> by_cases b1 : y = i <;> by_cases b2 : y = i + 1 <;> by_cases c1 : z = i <;> by_cases c2 : z = i + 1 <;> first | (exfalso; omega) | (simp [a1, a2, b1, b2, c1, c2, OK2, show ¬ i = i + 1 by omega, show ¬ i + 1 = i by omega]; try first | exact K.refl _ | exact kk (.a (by omega) (by omega)) | exact kk (.b (by omega) (by omega)) | exact (kk (.a (by omega) (by omega))).symm | exact (kk (.b (by omega) (by omega))).symm)
theorem kt_lower {t t' : List Int} (h : Kt t t') (i : Int) : OK2 (lower t i) (lower t' i) := by
  cases h with
  | @a x y z h1 h2 =>
    simp only [lower_cons, ep_cons, ph_cons, ep_nil, ph_nil, lower_nil]
    by_cases a1 : x = i <;> by_cases a2 : x = i + 1 <;> by_cases b1 : y = i <;> by_cases b2 : y = i + 1 <;> by_cases c1 : z = i <;> by_cases c2 : z = i + 1 <;> first | (exfalso; omega) | (simp [a1, a2, b1, b2, c1, c2, OK2, show ¬ i = i + 1 by omega, show ¬ i + 1 = i by omega]; try first | exact K.refl _ | exact kk (.a (by omega) (by omega)) | exact kk (.b (by omega) (by omega)) | exact (kk (.a (by omega) (by omega))).symm | exact (kk (.b (by omega) (by omega))).symm)
  | @b x y z h1 h2 =>
    simp only [lower_cons, ep_cons, ph_cons, ep_nil, ph_nil, lower_nil]
    by_cases a1 : x = i <;> by_cases a2 : x = i + 1 <;> by_cases b1 : y = i <;> by_cases b2 : y = i + 1 <;> by_cases c1 : z = i <;> by_cases c2 : z = i + 1 <;> first | (exfalso; omega) | (simp [a1, a2, b1, b2, c1, c2, OK2, show ¬ i = i + 1 by omega, show ¬ i + 1 = i by omega]; try first | exact K.refl _ | exact kk (.a (by omega) (by omega)) | exact kk (.b (by omega) (by omega)) | exact (kk (.a (by omega) (by omega))).symm | exact (kk (.b (by omega) (by omega))).symm)
theorem OK2.rfl' {a : Option (List Int)} : OK2 a a := by
  cases a with
  | none => exact .inl ⟨rfl, rfl⟩
  | some u => exact .inr ⟨u, u, rfl, rfl, .refl u⟩
theorem OK2.sym {a b : Option (List Int)} (h : OK2 a b) : OK2 b a := by
  rcases h with ⟨h1, h2⟩ | ⟨u, v, h1, h2, k⟩
  · exact .inl ⟨h2, h1⟩
  · exact .inr ⟨v, u, h2, h1, k.symm⟩
theorem OK2.tr {a b c : Option (List Int)} (h : OK2 a b) (h' : OK2 b c) : OK2 a c := by
  rcases h with ⟨h1, h2⟩ | ⟨u, v, h1, h2, k⟩
  · rw [h1, ← h2]; exact h'
  · rcases h' with ⟨g1, g2⟩ | ⟨u', v', g1, g2, k'⟩
    · rw [h2] at g1; simp at g1
    · rw [h2] at g1
      obtain rfl : v = u' := by simpa using g1
      exact .inr ⟨u, v', h1, g2, k.trans k'⟩
theorem OK2.mp {a b : Option (List Int)} {f g : List Int → List Int} (h : OK2 a b) (hf : ∀ u v, K u v → K (f u) (g v)) : OK2 (a.map f) (b.map g) := by
  rcases h with ⟨h1, h2⟩ | ⟨u, v, h1, h2, k⟩
  · exact .inl ⟨by rw [h1]; rfl, by rw [h2]; rfl⟩
  · exact .inr ⟨f u, g v, by rw [h1]; rfl, by rw [h2]; rfl, hf u v k⟩
theorem K.ep {u v : List Int} (h : K u v) (i : Int) : ep u i = ep v i ∧ ph u i = ph v i := by
  induction h with
  | refl _ => exact ⟨rfl, rfl⟩
  | step u v k =>
    obtain ⟨e1, e2⟩ := kt_ep k i
    simp only [ep_app, ph_app, e1, e2]
    exact ⟨trivial, trivial⟩
  | symm _ ih => exact ⟨ih.1.symm, ih.2.symm⟩
  | trans _ _ h1 h2 => exact ⟨h1.1.trans h2.1, h1.2.trans h2.2⟩
theorem K.raise {u v : List Int} (h : K u v) (i : Int) : OK2 (raise u i) (raise v i) := by
  induction h with
  | refl _ => exact .rfl'
  | @step u v t t' k =>
    obtain ⟨e1, e2⟩ := kt_ep k i
    have k' := kk k
    rw [raise_app, raise_app u, raise_app t, raise_app t', ep_app, ep_app t', e1, e2]
    split
    · split
      · exact (OK2.mp OK2.rfl' (fun p q hp => (k'.left p).trans (hp.right t'))).mp fun p q hp => hp.right u
      · exact ((kt_raise k i).mp fun p q hp => hp.left v).mp fun p q hp => hp.right u
    · exact OK2.mp OK2.rfl' fun p q hp => (hp.left _).trans ((k'.left v).right q)
  | symm _ ih => exact ih.sym
  | trans _ _ h1 h2 => exact h1.tr h2
theorem K.lower {u v : List Int} (h : K u v) (i : Int) : OK2 (lower u i) (lower v i) := by
  induction h with
  | refl _ => exact .rfl'
  | @step u v t t' k =>
    obtain ⟨e1, e2⟩ := kt_ep k i
    have k' := kk k
    rw [lower_app, lower_app u, lower_app t, lower_app t', ep_app, ep_app t', e1, e2]
    split
    · exact OK2.mp OK2.rfl' fun p q hp => (hp.left _).trans ((k'.left v).right q)
    · split
      · exact ((kt_lower k i).mp fun p q hp => hp.left v).mp fun p q hp => hp.right u
      · exact (OK2.mp OK2.rfl' (fun p q hp => (k'.left p).trans (hp.right t'))).mp fun p q hp => hp.right u
  | symm _ ih => exact ih.sym
  | trans _ _ h1 h2 => exact h1.tr h2
end DL
namespace DL
/-! ### raising and lowering undo each other -/
theorem raise_ep (i : Int) : ∀ w : List Int, raise w i = none ↔ ep w i = 0
  | [] => by simp
  | a :: v => by
    have ih := raise_ep i v
    rw [raise_cons, ep_cons]
    by_cases c : a = i
    · have n : ¬ a = i + 1 := by omega
      simp only [if_pos c, if_neg n]
      split
      · rw [Option.map_eq_none_iff, ih]; omega
      · constructor
        · intro _; omega
        · intro _; rfl
    · simp only [if_neg c]
      by_cases d : a = i + 1
      · simp only [if_pos d]
        split
        · rw [Option.map_eq_none_iff, ih]; omega
        · constructor
          · intro h; simp at h
          · intro h; omega
      · simp only [if_neg d]
        split
        · rw [Option.map_eq_none_iff, ih]; omega
        · constructor
          · intro h; omega
          · intro h; rfl
theorem raise_back (i : Int) : ∀ {w u : List Int}, raise w i = some u → lower u i = some w ∧ ep u i + 1 = ep w i ∧ ph u i = ph w i + 1 ∧ u.length = w.length
  | [], u, h => by simp at h
  | a :: v, u, h => by
    rw [raise_cons] at h
    by_cases q : (if a = i then 1 else 0) < ep v i
    · rw [if_pos q] at h
      cases e : raise v i with
      | none => rw [e] at h; simp at h
      | some u' =>
        rw [e] at h
        obtain rfl : a :: u' = u := by simpa using h
        obtain ⟨h1, h2, h3, h4⟩ := raise_back i e
        rw [lower_cons, ep_cons, ph_cons, ep_cons, ph_cons]
        generalize (if a = i then 1 else 0) = d at *
        rw [if_neg (by omega), h1]
        exact ⟨rfl, by omega, by omega, by rw [List.length_cons, List.length_cons, h4]⟩
    · rw [if_neg q] at h
      by_cases c : a = i + 1
      · rw [if_pos c] at h
        obtain rfl : i :: v = u := by simpa using h
        have n : ¬ a = i := by omega
        have m : ¬ i = i + 1 := by omega
        rw [if_neg n] at q
        rw [lower_cons, ep_cons, ph_cons, ep_cons, ph_cons, if_pos rfl, if_pos (by omega), if_neg m, if_pos c, if_neg n, c]
        exact ⟨rfl, by omega, by omega, rfl⟩
      · rw [if_neg c] at h; simp at h
theorem lower_ph (i : Int) : ∀ w : List Int, lower w i = none ↔ ph w i = 0
  | [] => by simp
  | a :: v => by
    have ih := lower_ph i v
    rw [lower_cons, ph_cons]
    generalize (if a = i then 1 else 0) = d at *
    split
    · constructor
      · intro h; simp at h
      · intro h; omega
    · rw [Option.map_eq_none_iff, ih]; omega
theorem lower_back (i : Int) : ∀ {w u : List Int}, lower w i = some u → raise u i = some w ∧ ep u i = ep w i + 1 ∧ ph u i + 1 = ph w i ∧ u.length = w.length
  | [], u, h => by simp at h
  | a :: v, u, h => by
    rw [lower_cons] at h
    by_cases q : ep v i < (if a = i then 1 else 0)
    · rw [if_pos q] at h
      obtain rfl : (i + 1) :: v = u := by simpa using h
      by_cases c : a = i
      · rw [if_pos c] at q
        have n : ¬ i + 1 = i := by omega
        have m : ¬ a = i + 1 := by omega
        rw [raise_cons, ep_cons, ph_cons, ep_cons, ph_cons, if_neg n, if_neg (by omega), if_pos rfl, if_pos rfl, if_neg m, if_pos c, c]
        exact ⟨rfl, by omega, by omega, rfl⟩
      · rw [if_neg c] at q; omega
    · rw [if_neg q] at h
      cases e : lower v i with
      | none => rw [e] at h; simp at h
      | some u' =>
        rw [e] at h
        obtain rfl : a :: u' = u := by simpa using h
        obtain ⟨h1, h2, h3, h4⟩ := lower_back i e
        rw [raise_cons, ep_cons, ph_cons, ep_cons, ph_cons]
        generalize (if a = i then 1 else 0) = d at *
        rw [if_pos (by omega), h1]
        exact ⟨rfl, by omega, by omega, by rw [List.length_cons, List.length_cons, h4]⟩
/-! ### a row raised -/
theorem ph_none {i : Int} : ∀ {w : List Int}, (∀ a ∈ w, a ≠ i) → ph w i = 0
  | [], _ => rfl
  | a :: w, h => by
    rw [ph_cons, ph_none fun b hb => h b (List.mem_cons_of_mem _ hb), if_neg (h a List.mem_cons_self)]
    omega
theorem ep_none {i : Int} : ∀ {w : List Int}, (∀ a ∈ w, a ≠ i + 1) → ep w i = 0
  | [], _ => rfl
  | a :: w, h => by
    rw [ep_cons, ep_none fun b hb => h b (List.mem_cons_of_mem _ hb), if_neg (h a List.mem_cons_self)]
    omega
theorem raise_mem (i : Int) {w u : List Int} (h : raise w i = some u) : (∃ a ∈ w, a = i + 1) ∧ ∀ a ∈ u, a ∈ w ∨ a = i := by
  induction w generalizing u with
  | nil => simp at h
  | cons b v ih =>
    rw [raise_cons] at h
    by_cases q : (if b = i then 1 else 0) < ep v i
    · rw [if_pos q] at h
      cases e : raise v i with
      | none => rw [e] at h; simp at h
      | some u' =>
        rw [e] at h
        obtain rfl : b :: u' = u := by simpa using h
        obtain ⟨⟨a, ha, ha'⟩, h2⟩ := ih e
        refine ⟨⟨a, List.mem_cons_of_mem _ ha, ha'⟩, fun c hc => ?_⟩
        rcases List.mem_cons.mp hc with rfl | hc
        · exact .inl List.mem_cons_self
        · rcases h2 c hc with m | m
          · exact .inl (List.mem_cons_of_mem _ m)
          · exact .inr m
    · rw [if_neg q] at h
      by_cases c : b = i + 1
      · rw [if_pos c] at h
        obtain rfl : i :: v = u := by simpa using h
        refine ⟨⟨b, List.mem_cons_self, c⟩, fun d hd => ?_⟩
        rcases List.mem_cons.mp hd with rfl | hd
        · exact .inr rfl
        · exact .inl (List.mem_cons_of_mem _ hd)
      · rw [if_neg c] at h; simp at h
theorem raise_row {i : Int} : ∀ {r u : List Int}, Srt r → raise r.reverse i = some u → ∃ s, u = s.reverse ∧ Srt s ∧ s.length = r.length ∧ ∀ b S, s = b :: S → ∃ a R, r = a :: R ∧ b ≤ a
  | [], u, _, h => by simp at h
  | a :: r, u, hs, h => by
    rw [List.reverse_cons, raise_app, ep_one, raise_one] at h
    by_cases c : a = i + 1
    · have z : ph r.reverse i = 0 := ph_none fun b hb => by
        have := hs.hd b (List.mem_reverse.mp hb)
        omega
      rw [z, if_pos c, if_pos (by omega), if_pos c] at h
      obtain rfl : r.reverse ++ [i] = u := by simpa using h
      refine ⟨i :: r, by simp, List.pairwise_cons.mpr ⟨fun b hb => ?_, hs.tl⟩, rfl, fun b S e => ⟨a, r, rfl, ?_⟩⟩
      · have := hs.hd b hb; omega
      · obtain ⟨rfl, -⟩ := List.cons.inj e; omega
    · rw [if_neg c, if_neg (by omega)] at h
      cases e : raise r.reverse i with
      | none => rw [e] at h; simp at h
      | some u' =>
        rw [e] at h
        obtain ⟨s, h1, h2, h3, h4⟩ := raise_row hs.tl e
        obtain ⟨⟨b, hb, hb'⟩, hm⟩ := raise_mem i e
        refine ⟨a :: s, ?_, List.pairwise_cons.mpr ⟨fun d hd => ?_, h2⟩, by rw [List.length_cons, List.length_cons, h3], fun b S e => ⟨a, r, rfl, ?_⟩⟩
        · rw [List.reverse_cons, ← h1]; simpa using h.symm
        · rcases hm d (by rw [h1]; exact List.mem_reverse.mpr hd) with m | m
          · exact hs.hd d (List.mem_reverse.mp m)
          · have := hs.hd b (List.mem_reverse.mp hb); omega
        · obtain ⟨rfl, -⟩ := List.cons.inj e; exact Int.le_refl _
/-! ### the tableau of a row, of a row and a letter below -/
theorem ri_top {x : Int} : ∀ {r : List Int}, (∀ b ∈ r, b ≤ x) → ri r x = (r ++ [x], [])
  | [], _ => rfl
  | a :: r, h => by
    have := h a List.mem_cons_self
    rw [ri_ge r (by omega), ri_top fun b hb => h b (List.mem_cons_of_mem _ hb)]
    rfl
theorem rwd_row (p : List Int) : ∀ {s : List Int}, Srt s → (∀ b ∈ p, ∀ c ∈ s, b ≤ c) → rwd p s.reverse = (p ++ s, []) := by
  intro s
  generalize hn : s.length = n
  induction n generalizing s p with
  | zero => intro _ _; obtain rfl := List.length_eq_zero_iff.mp hn; simp [rwd]
  | succ n ih =>
    intro hs hp
    obtain ⟨t, x, rfl⟩ : ∃ t x, s = t ++ [x] := by
      rcases List.eq_nil_or_concat s with rfl | ⟨l, b, rfl⟩
      · simp at hn
      · exact ⟨l, b, by simp⟩
    have ht : Srt t := (List.pairwise_append.mp hs).1
    have hx : ∀ b ∈ t, b ≤ x := fun b hb => (List.pairwise_append.mp hs).2.2 b hb x (by simp)
    rw [List.reverse_append, List.reverse_singleton, List.singleton_append, rwd, ih p (by simpa using hn) ht fun b hb c hc => hp b hb c (List.mem_append_left _ hc)]
    simp only
    rw [ri_top fun b hb => by
      rcases List.mem_append.mp hb with m | m
      · exact hp b m x (by simp)
      · exact hx b m]
    simp
theorem pL_row {r : List Int} (h : Srt r) (hn : r ≠ []) : pL r.reverse = [r] := by
  rw [pL_cons (by simpa using hn), rwd_row [] h (by simp)]
  rfl
theorem pL_row1 {a c : Int} {r : List Int} (h : Srt (a :: r)) (hc : a < c) : pL ((a :: r).reverse ++ [c]) = [a :: r, [c]] := by
  have e : rwd [] ((a :: r).reverse ++ [c]) = (a :: r, [c]) := by
    have : ∀ w : List Int, rwd [] (w ++ [c]) = ((rwd [c] w).1, (rwd [c] w).2) := by
      intro w
      induction w with
      | nil => rfl
      | cons b w ih => rw [List.cons_append, rwd, ih, rwd]
    rw [this, List.reverse_cons]
    have t : ∀ w : List Int, rwd [c] (w ++ [a]) = ((rwd [a] w).1, (rwd [a] w).2 ++ [c]) := by
      intro w
      induction w with
      | nil => simp [rwd, ri, hc]
      | cons b w ih => rw [List.cons_append, rwd, ih, rwd]; simp
    rw [t, rwd_row [a] h.tl (by simpa using h.hd)]
    rfl
  rw [pL_cons (by simp), e]
  rfl
/-! ### a letter into a row, raised -/
theorem rwd_cons1 {r : List Int} (h : Srt r) (a : Int) : rwd [] (a :: r.reverse) = ri r a := by
  rw [rwd, rwd_row [] h (by simp)]
  simp
theorem ri_raise {i a : Int} {r u : List Int} (hs : Srt r) (h : raise (a :: r.reverse) i = some u) :
    ∃ a1 r1, u = a1 :: r1.reverse ∧ Srt r1 ∧ r1.length = r.length ∧ raise ((ri r a).1.reverse ++ (ri r a).2) i = some ((ri r1 a1).1.reverse ++ (ri r1 a1).2) ∧ (ri r1 a1).1.length = (ri r a).1.length ∧ (ri r1 a1).2.length = (ri r a).2.length := by
  obtain ⟨a1, r1, rfl, s1, l1⟩ : ∃ a1 r1, u = a1 :: r1.reverse ∧ Srt r1 ∧ r1.length = r.length := by
    rw [raise_cons] at h
    by_cases q : (if a = i then 1 else 0) < ep r.reverse i
    · rw [if_pos q] at h
      cases e : raise r.reverse i with
      | none => rw [e] at h; simp at h
      | some u' =>
        rw [e] at h
        obtain ⟨s, h1, h2, h3, -⟩ := raise_row hs e
        exact ⟨a, s, by rw [← h1]; simpa using h.symm, h2, h3⟩
    · rw [if_neg q] at h
      by_cases c : a = i + 1
      · rw [if_pos c] at h
        exact ⟨i, r, by simpa using h.symm, hs, rfl⟩
      · rw [if_neg c] at h; simp at h
  refine ⟨a1, r1, rfl, s1, l1, ?_⟩
  have k := (k_ri (x := a) hs).raise i
  rw [h] at k
  rcases k with ⟨h1, -⟩ | ⟨u, v, h1, h2, k⟩
  · simp at h1
  obtain rfl : a1 :: r1.reverse = u := by simpa using h1
  have p1 := k.pL
  rw [pL_cons (by simp), rwd_cons1 s1] at p1
  have sr := ri_srt (x := a) hs
  -- v is a row, or a row and a letter
  have key : v = (ri r1 a1).1.reverse ++ (ri r1 a1).2 ∧ (ri r1 a1).1.length = (ri r a).1.length ∧ (ri r1 a1).2.length = (ri r a).2.length := by
    rcases ri_out (r := r) (x := a) with e | ⟨c, e, cr, ac⟩
    · rw [e, List.append_nil] at h2
      obtain ⟨s, v1, v2, v3, -⟩ := raise_row sr h2
      have sn : s ≠ [] := fun w => by
        have : (ri r a).1.length ≠ 0 := fun w => ri_ne (List.length_eq_zero_iff.mp w)
        rw [w] at v3; simp at v3; omega
      rw [v1, pL_row v2 sn] at p1
      obtain ⟨q1, q2⟩ := List.cons.inj p1
      have q3 : (ri r1 a1).2 = [] := by
        rcases ri_out (r := r1) (x := a1) with e | ⟨c, e, -, -⟩
        · exact e
        · rw [e] at q2; simp [pL, insW, bumpL] at q2
      exact ⟨by rw [v1, q1, q3, List.append_nil], by rw [q1, v3], by rw [q3, e]⟩
    · rw [e] at h2
      obtain ⟨f, R, hf⟩ : ∃ f R, (ri r a).1 = f :: R := by
        cases q : (ri r a).1 with
        | nil => exact absurd q ri_ne
        | cons f R => exact ⟨f, R, rfl⟩
      have fa : f ≤ a := by
        have m := ri_in (x := a) (r := r)
        rw [hf] at m sr
        rcases List.mem_cons.mp m with e | m
        · omega
        · exact sr.hd a m
      have shape : ∃ b S d, v = (b :: S).reverse ++ [d] ∧ Srt (b :: S) ∧ b < d ∧ (b :: S).length = (ri r a).1.length := by
        rw [raise_app, ep_one, raise_one] at h2
        by_cases w : ph (ri r a).1.reverse i < if c = i + 1 then 1 else 0
        · rw [if_pos w] at h2
          by_cases ci : c = i + 1
          · rw [if_pos ci] at h2 w
            refine ⟨f, R, i, ?_, by rw [← hf]; exact sr, ?_, by rw [hf]⟩
            · rw [← hf]; simpa using h2.symm
            · by_cases fi : f = i
              · exfalso
                have : ph (ri r a).1.reverse i ≠ 0 := by
                  rw [hf, List.reverse_cons, ph_app, ph_one, if_pos fi]
                  omega
                omega
              · omega
          · rw [if_neg ci] at w; omega
        · rw [if_neg w] at h2
          cases q : raise (ri r a).1.reverse i with
          | none => rw [q] at h2; simp at h2
          | some v' =>
            rw [q] at h2
            obtain ⟨s, v1, v2, v3, v4⟩ := raise_row sr q
            cases s with
            | nil => rw [hf] at v3; simp at v3
            | cons b S =>
              obtain ⟨a', R', ea, ba⟩ := v4 b S rfl
              rw [hf] at ea
              obtain ⟨rfl, -⟩ := List.cons.inj ea
              refine ⟨b, S, c, ?_, v2, by omega, v3⟩
              rw [← v1]; simpa using h2.symm
      obtain ⟨b, S, d, v1, v2, bd, v3⟩ := shape
      rw [v1, pL_row1 v2 bd] at p1
      obtain ⟨q1, q2⟩ := List.cons.inj p1
      have q3 : (ri r1 a1).2 = [d] := by
        rcases ri_out (r := r1) (x := a1) with e | ⟨c, e, -, -⟩
        · rw [e] at q2; simp [pL, insW] at q2
        · rw [e] at q2 ⊢; simp [pL, insW, bumpL] at q2; rw [q2]
      exact ⟨by rw [v1, q1, q3], by rw [q1, v3], by rw [q3, e]; rfl⟩
  exact ⟨by rw [h2, key.1], key.2.1, key.2.2⟩
end DL
namespace DL
/-! ### a carrier's step is a letter put into a row, read back -/
theorem ri_inj : ∀ {r s : List Int} {a b m : Int} {c : List Int}, Srt r → Srt s → ri r a = (c, [m]) → ri s b = (c, [m]) → r = s ∧ a = b
  | [], s, a, b, m, c, _, _, h1, h2 => by simp [ri] at h1
  | x :: r, [], a, b, m, c, _, _, h1, h2 => by simp [ri] at h2
  | x :: r, y :: s, a, b, m, c, hr, hs, h1, h2 => by
    by_cases p : a < x
    · rw [ri_lt r p] at h1
      have e1 := Prod.mk.inj h1
      by_cases q : b < y
      · rw [ri_lt s q] at h2
        have e2 := Prod.mk.inj h2
        rw [← e1.1, ← e1.2] at e2
        have u := List.cons.inj e2.1
        have v := List.cons.inj e2.2
        exact ⟨by rw [v.1, u.2], u.1.symm⟩
      · rw [ri_ge s q] at h2
        have e2 := Prod.mk.inj h2
        rw [← e1.1, ← e1.2] at e2
        have u := List.cons.inj e2.1
        exfalso
        have bi : b ∈ r := u.2 ▸ ri_in
        have := hr.hd b bi
        rcases ri_out (r := s) (x := b) with w | ⟨d, w, -, hd⟩
        · rw [w] at e2; simp at e2
        · rw [w] at e2
          have := (List.cons.inj e2.2).1
          omega
    · rw [ri_ge r p] at h1
      have e1 := Prod.mk.inj h1
      by_cases q : b < y
      · rw [ri_lt s q] at h2
        have e2 := Prod.mk.inj h2
        rw [← e1.1, ← e1.2] at e2
        have u := List.cons.inj e2.1
        exfalso
        have ai : a ∈ s := u.2.symm ▸ ri_in
        have := hs.hd a ai
        rcases ri_out (r := r) (x := a) with w | ⟨d, w, -, hd⟩
        · rw [w] at e2; simp at e2
        · rw [w] at e2
          have := (List.cons.inj e2.2).1
          omega
      · rw [ri_ge s q] at h2
        have e2 := Prod.mk.inj h2
        rw [← e1.1] at e2
        have u := List.cons.inj e2.1
        obtain ⟨i1, i2⟩ := ri_inj (r := r) (s := s) (c := (ri r a).1) (m := m) hr.tl hs.tl (by rw [← e1.2]) (by rw [← e2.2, ← u.2])
        exact ⟨by rw [i1, u.1], i2⟩
/-- nothing comes out: all are up to x -/
theorem ri_none {x : Int} {r : List Int} (h : (ri r x).2 = []) : (∀ b ∈ r, b ≤ x) ∧ ri r x = (r ++ [x], []) := by
  have a : ∀ b ∈ r, b ≤ x := fun b hb => by
    by_cases c : x < b
    · obtain ⟨d, e⟩ := ri_some hb c
      rw [e] at h; simp at h
    · omega
  exact ⟨a, ri_top a⟩
structure Stp (C : List Int) (m a : Int) (D : List Int) : Prop where
  s : Srt D
  e : ri D a = (C, [m]) ∨ ri D a = (m :: C, [])
theorem Stp.srt {C D : List Int} {m a : Int} (h : Stp C m a D) : Srt C := by
  have := ri_srt (x := a) h.s
  rcases h.e with e | e
  · rw [e] at this; exact this
  · rw [e] at this; exact this.tl
theorem Stp.k {C D : List Int} {m a : Int} (h : Stp C m a D) : K (C.reverse ++ [m]) (a :: D.reverse) := by
  have := (k_ri (x := a) h.s).symm
  rcases h.e with e | e
  · rw [e] at this; exact this
  · rw [e] at this; simpa using this
theorem Stp.word {C D : List Int} {m a : Int} (h : Stp C m a D) : C.reverse ++ [m] = (ri D a).1.reverse ++ (ri D a).2 := by
  rcases h.e with e | e <;> rw [e] <;> simp
theorem Stp.len {C D : List Int} {m a : Int} (h : Stp C m a D) : C.length = D.length := by
  have := ri_len (r := D) (x := a)
  rcases h.e with e | e <;> rw [e] at this <;> simp at this <;> omega
theorem Stp.uniq {C D E : List Int} {m a b : Int} (h : Stp C m a D) (h' : Stp C m b E) : a = b ∧ D = E := by
  have mix : ∀ {D E : List Int} {a b : Int}, ri D a = (C, [m]) → ri E b = (m :: C, []) → Srt E → False := fun {D E a b} e e' sE => by
    have s1 := ri_srt (x := b) sE
    rw [e'] at s1
    have m1 := ri_in (x := a) (r := D)
    rw [e] at m1
    have := s1.hd a m1
    rcases ri_out (r := D) (x := a) with w | ⟨d, w, -, hd⟩
    · rw [e] at w; simp at w
    · rw [e] at w
      have := (List.cons.inj w).1
      omega
  rcases h.e with e | e
  · rcases h'.e with e' | e'
    · obtain ⟨p, q⟩ := ri_inj h.s h'.s e e'
      exact ⟨q, p⟩
    · exact (mix e e' h'.s).elim
  · rcases h'.e with e' | e'
    · exact (mix e' e h.s).elim
    · have t := (ri_none (r := D) (x := a) (by rw [e])).2
      have t' := (ri_none (r := E) (x := b) (by rw [e'])).2
      rw [e] at t; rw [e'] at t'
      have z : D ++ [a] = E ++ [b] := (Prod.mk.inj t).1.symm.trans (Prod.mk.inj t').1
      obtain ⟨z1, z2⟩ := List.append_inj' z rfl
      exact ⟨(List.cons.inj z2).1, z1⟩
theorem Stp.raise {C D v : List Int} {m a i : Int} (h : Stp C m a D) (hv : raise (C.reverse ++ [m]) i = some v) :
    ∃ C1 m1 a1 D1, v = C1.reverse ++ [m1] ∧ DL.raise (a :: D.reverse) i = some (a1 :: D1.reverse) ∧ Stp C1 m1 a1 D1 ∧ C1.length = C.length ∧ D1.length = D.length := by
  have k := h.k.raise i
  rw [hv] at k
  rcases k with ⟨k1, -⟩ | ⟨u, u', k1, k2, -⟩
  · simp at k1
  obtain ⟨a1, D1, rfl, s1, l1, r1, l2, l3⟩ := ri_raise h.s k2
  have hv' := hv
  rw [h.word, r1] at hv'
  have hv' := (Option.some.inj hv').symm
  rcases h.e with e | e
  · rw [e] at l3 l2
    obtain ⟨m1, hm⟩ : ∃ m1, (ri D1 a1).2 = [m1] := List.length_eq_one_iff.mp l3
    refine ⟨(ri D1 a1).1, m1, a1, D1, by rw [hv', hm], k2, ⟨s1, .inl ?_⟩, l2, l1⟩
    rw [← hm]
  · rw [e] at l3 l2
    have hm : (ri D1 a1).2 = [] := List.length_eq_zero_iff.mp l3
    cases q : (ri D1 a1).1 with
    | nil => rw [q] at l2; simp at l2
    | cons m1 C1 =>
      refine ⟨C1, m1, a1, D1, by rw [hv', hm, q]; simp, k2, ⟨s1, .inr ?_⟩, by rw [q] at l2; simpa using l2, l1⟩
      rw [← hm, ← q]
/-! ### words with spots left out -/
theorem ep_zero {i : Int} (hi : 1 ≤ i) (w : List Int) : ep (0 :: w) i = ep w i := by
  rw [ep_cons, if_neg (by omega), if_neg (by omega)]; omega
theorem ph_zero {i : Int} (hi : 1 ≤ i) (w : List Int) : ph (0 :: w) i = ph w i := by
  rw [ph_cons, if_neg (by omega)]; omega
theorem raise_zero {i : Int} (hi : 1 ≤ i) (w : List Int) : raise (0 :: w) i = (raise w i).map (0 :: ·) := by
  rw [raise_cons, if_neg (show ¬ (0 : Int) = i by omega), if_neg (show ¬ (0 : Int) = i + 1 by omega)]
  by_cases h : 0 < ep w i
  · rw [if_pos h]
  · rw [if_neg h, (raise_ep i w).mpr (by omega)]; rfl
def cols (w : List Int) : List Int := w.filter fun a => decide (1 ≤ a)
/-- the same spots are empty -/
def Sam (w u : List Int) : Prop := w.map (fun a => decide (1 ≤ a)) = u.map (fun a => decide (1 ≤ a))
theorem ep_cols {i : Int} (hi : 1 ≤ i) : ∀ {w : List Int}, (∀ a ∈ w, 0 ≤ a) → ep (cols w) i = ep w i ∧ ph (cols w) i = ph w i
  | [], _ => ⟨rfl, rfl⟩
  | a :: w, h => by
    obtain ⟨e, f⟩ := ep_cols hi (w := w) fun b hb => h b (List.mem_cons_of_mem _ hb)
    by_cases c : 1 ≤ a
    · have : cols (a :: w) = a :: cols w := by simp [cols, c]
      rw [this, ep_cons, ep_cons, ph_cons, ph_cons, e, f]
      exact ⟨rfl, rfl⟩
    · have := h a List.mem_cons_self
      obtain rfl : a = 0 := by omega
      have : cols (0 :: w) = cols w := by simp [cols]
      rw [this, ep_zero hi, ph_zero hi]
      exact ⟨e, f⟩
theorem raise_cols {i : Int} (hi : 1 ≤ i) : ∀ {w u : List Int}, (∀ a ∈ w, 0 ≤ a) → raise w i = some u → raise (cols w) i = some (cols u) ∧ Sam w u
  | [], u, _, h => by simp [raise, upr, ug] at h
  | a :: w, u, h, e => by
    have h' : ∀ b ∈ w, 0 ≤ b := fun b hb => h b (List.mem_cons_of_mem _ hb)
    by_cases c : 1 ≤ a
    · have ca : ∀ v, cols (a :: v) = a :: cols v := fun v => by simp [cols, c]
      rw [raise_cons] at e
      rw [ca, raise_cons, (ep_cols hi h').1]
      by_cases q : (if a = i then 1 else 0) < ep w i
      · rw [if_pos q] at e ⊢
        cases r : raise w i with
        | none => rw [r] at e; simp at e
        | some v =>
          rw [r] at e
          obtain ⟨e1, e2⟩ := raise_cols hi h' r
          obtain rfl : a :: v = u := by simpa using e
          rw [e1, ca]
          exact ⟨rfl, by unfold Sam at e2 ⊢; simp [e2]⟩
      · rw [if_neg q] at e ⊢
        by_cases z : a = i + 1
        · rw [if_pos z] at e ⊢
          obtain rfl : i :: w = u := by simpa using e
          refine ⟨by simp [cols, hi], ?_⟩
          unfold Sam; simp [c, hi]
        · rw [if_neg z] at e; simp at e
    · have := h a List.mem_cons_self
      obtain rfl : a = 0 := by omega
      have ca : ∀ v, cols (0 :: v) = cols v := fun v => by simp [cols]
      rw [raise_zero hi] at e
      cases r : raise w i with
      | none => rw [r] at e; simp at e
      | some v =>
        rw [r] at e
        obtain ⟨e1, e2⟩ := raise_cols hi h' r
        obtain rfl : 0 :: v = u := by simpa using e
        rw [ca, ca]
        exact ⟨e1, by unfold Sam at e2 ⊢; simp [e2]⟩
/-- the empty spots again -/
theorem cols_inj : ∀ {w u : List Int}, (∀ a ∈ w, 0 ≤ a) → (∀ a ∈ u, 0 ≤ a) → Sam w u → cols w = cols u → w = u
  | [], [], _, _, _, _ => rfl
  | [], b :: u, _, _, h, _ => by simp [Sam] at h
  | a :: w, [], _, _, h, _ => by simp [Sam] at h
  | a :: w, b :: u, hw, hu, h, e => by
    have h1 : (decide (1 ≤ a) = decide (1 ≤ b)) ∧ Sam w u := by unfold Sam at h ⊢; simpa using h
    have hw' : ∀ b ∈ w, 0 ≤ b := fun b hb => hw b (List.mem_cons_of_mem _ hb)
    have hu' : ∀ b ∈ u, 0 ≤ b := fun b hb => hu b (List.mem_cons_of_mem _ hb)
    by_cases c : 1 ≤ a
    · have c2 : 1 ≤ b := by simpa [c] using h1.1
      have e : a :: cols w = b :: cols u := by simpa [cols, c, c2] using e
      obtain ⟨e1, e2⟩ := List.cons.inj e
      rw [e1, cols_inj hw' hu' h1.2 e2]
    · have c2 : ¬ 1 ≤ b := by simpa [c] using h1.1
      have := hw a List.mem_cons_self
      have := hu b List.mem_cons_self
      have e : cols w = cols u := by simpa [cols, c, c2] using e
      rw [cols_inj hw' hu' h1.2 e, show a = b by omega]
theorem ep_zeros {i : Int} (hi : 1 ≤ i) : ∀ n : Nat, ep (List.replicate n 0) i = 0 ∧ ph (List.replicate n 0) i = 0
  | 0 => ⟨rfl, rfl⟩
  | n + 1 => by rw [List.replicate_succ, ep_zero hi, ph_zero hi]; exact ep_zeros hi n
theorem raise_zeros {i : Int} (hi : 1 ≤ i) (w : List Int) : ∀ n : Nat, raise (List.replicate n 0 ++ w) i = (raise w i).map (List.replicate n 0 ++ ·)
  | 0 => by simp
  | n + 1 => by
    rw [List.replicate_succ, List.cons_append, raise_zero hi, raise_zeros hi w n, Option.map_map]
    rfl
end DL
namespace DL
open PySem L2

inductive Sm : PV → Prop
  | non : Sm .non
  | bl (b : Bool) : Sm (.bl b)
  | int (i : Int) : Sm (.int i)
  | str (x : Str) : Sm (.str x)
  | tup (xs : List PV) : Sm (.tup xs)
  | lst (xs : List PV) : Sm (.lst xs)
def isI : PV → Bool
  | .int _ => true
  | _ => false
theorem isint_sm {x : PV} (h : Sm x) (S : AH) : d_is_integer [.p x] S = .ok (.p (.bl (isI x))) S := by
  cases h <;> simp [d_is_integer, b_is_integer_, isI]
/-! ### balls -/
def bV (p : Int × Int) : PV := .tup [.int p.1, .int p.2]
def sV (s : List (Int × Int)) : PV := .tup (s.map bV)
def ballB : PV → Bool
  | .tup [.int x, .int y] => decide (-1000000000000 ≤ x) && decide (x ≤ 1000000000000) && (decide (1 ≤ y) && decide (y ≤ 3))
  | _ => false
/-- a value of which it may be asked whether it is a ball -/
def BV (v : PV) : Prop := Sm v ∧ ∀ x y, v = .tup [x, y] → Sm x ∧ Sm y
theorem at0 (x : PV) (r : List PV) (S : AH) : ixO (.p (.tup (x :: r))) (.p (.int 0)) S = some (.p x, S) := ixO_tup (atI_at (by decide) rfl)
theorem at1 (x y : PV) (r : List PV) (S : AH) : ixO (.p (.tup (x :: y :: r))) (.p (.int 1)) S = some (.p y, S) := ixO_tup (atI_at (by decide) rfl)
theorem ball_any {v : PV} (h : BV v) (S : AH) : d_is_ball [.p v] S = .ok (.p (.bl (ballB v))) S := by
  obtain ⟨hs, ht⟩ := h
  cases hs with
  | tup xs =>
    match xs, ht with
    | [], _ => simp [d_is_ball, b_is_ball_, ballB]
    | [x], _ => simp [d_is_ball, b_is_ball_, ballB]
    | [x, y], ht =>
      obtain ⟨hx, hy⟩ := ht x y rfl
      have ex := isint_sm hx
      have ey := isint_sm hy
      cases hx with
      | int i =>
        cases hy with
        | int j =>
          have hab : ∀ S : AH, leO (.p (.int (if i < 0 then -i else i))) (.p (.int 1000000000000)) S = some (.p (.bl (decide (-1000000000000 ≤ i) && decide (i ≤ 1000000000000))), S) := fun S => by
            have : decide ((if i < 0 then -i else i) ≤ 1000000000000) = (decide (-1000000000000 ≤ i) && decide (i ≤ 1000000000000)) := by
              rw [Bool.eq_iff_iff, Bool.and_eq_true, decide_eq_true_eq, decide_eq_true_eq, decide_eq_true_eq]
              split <;> omega
            simp [this]
          cases q : (decide (-1000000000000 ≤ i) && decide (i ≤ 1000000000000)) with
          | false =>
            rw [q] at hab
            simp [d_is_ball, b_is_ball_, ballB, ex, ey, isI, at0, at1, hab, q]
          | true =>
            rw [q] at hab
            simp [d_is_ball, b_is_ball_, ballB, ex, ey, isI, at0, at1, hab, q]
            try (by_cases q1 : 1 ≤ j <;> simp [q1])
        | _ => simp [d_is_ball, b_is_ball_, ballB, ex, ey, isI, at0, at1]
      | _ => simp [d_is_ball, b_is_ball_, ballB, ex, ey, isI, at0, at1]
    | x :: y :: z :: r, _ =>
      have : ¬ ((r.length : Int) + 1 + 1 + 1 = 2) := by omega
      simp [d_is_ball, b_is_ball_, ballB, this]
  | _ => simp [d_is_ball, b_is_ball_, ballB]
/-! ### standings -/
def fst_ : PV → Int
  | .tup (.int x :: _) => x
  | _ => 0
def incV (xs : List PV) : Bool := (List.range (xs.length - 1)).all fun k => decide (fst_ (xs.getD k .non) < fst_ (xs.getD (k + 1) .non))
def standB : PV → Bool
  | .tup xs => decide (xs.length ≤ 12) && (xs.all ballB && incV xs)
  | _ => false
def SV (v : PV) : Prop := Sm v ∧ ∀ xs, v = .tup xs → (∀ x ∈ xs, BV x) ∧ xs.length ≤ 1000
theorem ball_form {v : PV} (h : ballB v = true) : ∃ x y, v = .tup [.int x, .int y] := by
  unfold ballB at h
  split at h
  · exact ⟨_, _, rfl⟩
  · cases h
theorem atI_nat {xs : List PV} {k : Nat} (h : k < xs.length) : atI xs (k : Int) = some (xs.getD k .non) := by
  rw [List.getD_eq_getElem?_getD, List.getElem?_eq_getElem h]
  exact atI_at (by omega) (by rw [Int.toNat_natCast, List.getElem?_eq_getElem h]; rfl)
theorem all_rng (p : Nat → Bool) (n : Nat) (S : AH) : allO [.p (.lst ((List.range n).map fun k => PV.bl (p k)))] S = some (.p (.bl ((List.range n).all p)), S) := by
  have e : (List.range n).map (fun k => PV.bl (p k)) = ((List.range n).map p).map PV.bl := by simp
  rw [e, allO_lst, List.all_map]
  rfl
theorem all_bls (p : PV → Bool) (xs : List PV) (S : AH) : allO [.p (.lst (xs.map fun x => PV.bl (p x)))] S = some (.p (.bl (xs.all p)), S) := by
  have e : xs.map (fun x => PV.bl (p x)) = (xs.map p).map PV.bl := by simp
  rw [e, allO_lst, List.all_map]
  rfl
theorem fst_at {v : PV} (h : ballB v = true) (S : AH) : ixO (.p v) (.p (.int 0)) S = some (.p (.int (fst_ v)), S) := by
  obtain ⟨x, y, rfl⟩ := ball_form h
  exact at0 _ _ _
theorem stand_any {v : PV} (h : SV v) (S : AH) : d_is_standing [.p v] S = .ok (.p (.bl (standB v))) S := by
  obtain ⟨hs, ht⟩ := h
  cases hs with
  | tup xs =>
    obtain ⟨hx, hz⟩ := ht xs rfl
    have hz1 : (dit xs).length ≤ 16777216 := by rw [dit_len]; omega
    have hz2 : (rangeI 1 (xs.length - 1)).length ≤ 16777216 := by rw [rangeI_len]; omega
    have rg : ∀ S : AH, kRng2 [.p (.int 1), .p (.int (xs.length : Int))] S = .ok (rangeI 1 (xs.length - 1), ckT) S := fun S => rg_two 1 xs.length (by omega) (by omega) S
    have l1 : ∀ S : AH, lcGo ckT (.nm 1) dYes (dCall d_is_ball (dCons (dVar 1) dNil)) [some (.p (.tup xs)), none, none] (dit xs) S = .ok (xs.map fun x => .bl (ballB x)) S := fun S =>
      lc_map trivial (fun x => .bl (ballB x)) (fun x hy => ⟨_, rfl, by
        have e := ball_any (hx x hy)
        simp [e]⟩)
    by_cases hl : 12 < (xs.length : Int)
    · have : ¬ xs.length ≤ 12 := by omega
      simp [d_is_standing, b_is_standing_, hl, standB, this]
    · have hl2 : xs.length ≤ 12 := by omega
      cases ha : xs.all ballB with
      | false => simp [-List.map_map, d_is_standing, b_is_standing_, hl, standB, hl2, ev_kLc hz1, wipeD, l1, all_bls, ha]
      | true =>
        have hb := List.all_eq_true.mp ha
        have l2 : ∀ S : AH, lcGo ckT (.nm 2) dYes (dBin ltO (dBin ixO (dBin ixO (dVar 0) (dBin subO (dVar 2) (dC (.int 1)))) (dC (.int 0))) (dBin ixO (dBin ixO (dVar 0) (dVar 2)) (dC (.int 0)))) [some (.p (.tup xs)), none, none] (rangeI 1 (xs.length - 1)) S = .ok ((List.range (xs.length - 1)).map fun k => .bl (decide (fst_ (xs.getD k .non) < fst_ (xs.getD (k + 1) .non)))) S := fun S =>
          lc_rmap (fun k => .bl (decide (fst_ (xs.getD k .non) < fst_ (xs.getD (k + 1) .non)))) (fun k hk => by
            have e1 : (1 : Int) + (k : Int) - 1 = (k : Int) := by omega
            have e2 : (1 : Int) + (k : Int) = ((k + 1 : Nat) : Int) := by omega
            have mem : ∀ j, j < xs.length → xs.getD j .non ∈ xs := fun j hj => by
              rw [List.getD_eq_getElem?_getD, List.getElem?_eq_getElem hj]
              exact List.getElem_mem hj
            have a1 : ∀ S : AH, ixO (.p (.tup xs)) (.p (.int (k : Int))) S = some (.p (xs.getD k .non), S) := fun S => ixO_tup (atI_nat (by omega))
            have a2 : ∀ S : AH, ixO (.p (.tup xs)) (.p (.int (1 + (k : Int)))) S = some (.p (xs.getD (k + 1) .non), S) := fun S => by rw [e2]; exact ixO_tup (atI_nat (by omega))
            have b1 := fst_at (hb _ (mem k (by omega)))
            have b2 := fst_at (hb _ (mem (k + 1) (by omega)))
            generalize xs.getD k .non = u at *
            generalize xs.getD (k + 1) .non = w at *
            simp only [ev_bin, ev_var, List.set, Res.bind_ok]
            simp [e1, a1, a2, b1, b2])
        simp [-List.map_map, d_is_standing, b_is_standing_, hl, standB, hl2, ev_kLc hz1, ev_kLc hz2, wipeD, l1, all_bls, ha, rg]
        rw [l2]
        simp only [incV]
        have := all_rng (fun k => decide (fst_ (xs.getD k .non) < fst_ (xs.getD (k + 1) .non))) (xs.length - 1)
        simp [-List.map_map, -List.getD_eq_getElem?_getD, this]
  | _ => simp [d_is_standing, b_is_standing_, standB]
end DL
namespace DL
open PySem L2
/-! ### standings, in plain Lean -/
structure Std (s : List (Int × Int)) : Prop where
  l : s.length ≤ 12
  b : ∀ p ∈ s, (-1000000000000 ≤ p.1 ∧ p.1 ≤ 1000000000000) ∧ (1 ≤ p.2 ∧ p.2 ≤ 3)
  a : s.Pairwise (fun p q => p.1 < q.1)
theorem sm_int_any (i : Int) : Sm (.int i) := .int i
theorem bv_ball (p : Int × Int) : BV (bV p) := ⟨.tup _, fun x y e => by
  cases e
  exact ⟨.int _, .int _⟩⟩
theorem sv_balls {s : List (Int × Int)} (h : s.length ≤ 1000) : SV (sV s) := ⟨.tup _, fun xs e => by
  cases e
  exact ⟨fun x hx => by
    obtain ⟨p, _, rfl⟩ := List.mem_map.mp hx
    exact bv_ball p, by rw [List.length_map]; exact h⟩⟩
theorem getD_map {s : List (Int × Int)} {k : Nat} (h : k < s.length) : (s.map bV).getD k .non = bV s[k] := by
  rw [List.getD_eq_getElem?_getD, List.getElem?_map, List.getElem?_eq_getElem h]
  rfl
theorem stand_yes {s : List (Int × Int)} (h : Std s) : standB (sV s) = true := by
  have h1 : decide ((s.map bV).length ≤ 12) = true := by rw [decide_eq_true_eq, List.length_map]; exact h.l
  have h2 : (s.map bV).all ballB = true := List.all_eq_true.mpr fun x hx => by
    obtain ⟨p, hp, rfl⟩ := List.mem_map.mp hx
    have := h.b p hp
    simp [ballB, bV, this]
  have h3 : incV (s.map bV) = true := List.all_eq_true.mpr fun k hk => by
    rw [List.mem_range, List.length_map] at hk
    rw [getD_map (by omega), getD_map (by omega), decide_eq_true_eq]
    exact List.pairwise_iff_getElem.mp h.a k (k + 1) (by omega) (by omega) (by omega)
  show (decide ((s.map bV).length ≤ 12) && ((s.map bV).all ballB && incV (s.map bV))) = true
  rw [h1, h2, h3]
  rfl
theorem stand_long {xs : List PV} (h : 12 < xs.length) : standB (.tup xs) = false := by
  have : ¬ xs.length ≤ 12 := by omega
  simp [standB, this]
theorem stand_mem {xs : List PV} {x : PV} (h : x ∈ xs) (hb : ballB x = false) : standB (.tup xs) = false := by
  have : xs.all ballB = false := by
    rw [List.all_eq_false]
    exact ⟨x, h, by rw [hb]; decide⟩
  simp [standB, this]
theorem stand_adj {u w : List PV} {p q : PV} (h : fst_ q ≤ fst_ p) : standB (.tup (u ++ p :: q :: w)) = false := by
  have : incV (u ++ p :: q :: w) = false := by
    unfold incV
    rw [List.all_eq_false]
    refine ⟨u.length, by simp, ?_⟩
    have e1 : (u ++ p :: q :: w).getD u.length .non = p := by simp [List.getD_eq_getElem?_getD]
    have e2 : (u ++ p :: q :: w).getD (u.length + 1) .non = q := by
      rw [List.getD_eq_getElem?_getD, List.getElem?_append_right (by omega)]
      simp
    rw [e1, e2]
    simp only [decide_eq_true_eq]
    omega
  simp [standB, this]
def letAt (s : List (Int × Int)) (x : Int) : Int := ((s.find? fun p => decide (p.1 = x)).map (·.2)).getD 0
def dS (s : List (Int × Int)) : List (Int × PV) := s.map fun p => (p.1, PV.int p.2)
theorem look_s (s : List (Int × Int)) (x : Int) : lookD (dS s) x = (s.find? fun p => decide (p.1 = x)).map (fun p => PV.int p.2) := by
  unfold lookD dS
  rw [List.find?_map, Option.map_map]
  rfl
theorem look_let (s : List (Int × Int)) (x : Int) : (lookD (dS s) x).getD (.int 0) = .int (letAt s x) := by
  rw [look_s]
  unfold letAt
  cases s.find? fun p => decide (p.1 = x) <;> rfl
theorem pairs_s : ∀ s : List (Int × Int), pairsOf (s.map bV) = some (dS s)
  | [] => rfl
  | p :: s => by
    rw [List.map_cons]
    unfold pairsOf
    rw [pairs_s s]
    rfl
theorem nodup_s {s : List (Int × Int)} (h : s.Pairwise (fun p q => p.1 < q.1)) : ((dS s).map (·.1)).Nodup := by
  unfold dS
  rw [List.map_map]
  refine List.pairwise_map.mpr (h.imp fun {p q} hpq => ?_)
  show p.1 ≠ q.1
  omega
def lets (s : List (Int × Int)) (a : Int) (n : Nat) : List Int := (List.range n).map fun (k : Nat) => letAt s (a + (k : Int))
theorem lets_len (s : List (Int × Int)) (a : Int) (n : Nat) : (lets s a n).length = n := by simp [lets]
theorem let_none {s : List (Int × Int)} {x : Int} (h : ∀ p ∈ s, p.1 ≠ x) : letAt s x = 0 := by
  unfold letAt
  rw [List.find?_eq_none.mpr fun p hp => by simpa using h p hp]
  rfl
theorem let_bd {s : List (Int × Int)} (h : ∀ p ∈ s, 1 ≤ p.2 ∧ p.2 ≤ 3) (x : Int) : 0 ≤ letAt s x ∧ letAt s x ≤ 3 := by
  unfold letAt
  cases e : s.find? fun p => decide (p.1 = x) with
  | none => exact ⟨by decide, by decide⟩
  | some p =>
    have := h p (List.mem_of_find?_eq_some e)
    show 0 ≤ p.2 ∧ p.2 ≤ 3
    omega
/-- the balls in the box x -/
theorem at_box {x : Int} : ∀ {s : List (Int × Int)}, s.Pairwise (fun p q => p.1 < q.1) → (∀ p ∈ s, 1 ≤ p.2) → s.filter (fun p => decide (p.1 = x)) = if 0 < letAt s x then [(x, letAt s x)] else []
  | [], _, _ => rfl
  | p :: s, h, hb => by
    obtain ⟨h1, h2⟩ := List.pairwise_cons.mp h
    have ih := at_box (x := x) h2 fun q hq => hb q (List.mem_cons_of_mem _ hq)
    by_cases e : p.1 = x
    · have f0 : s.filter (fun p => decide (p.1 = x)) = [] := List.filter_eq_nil_iff.mpr fun q hq => by
        have := h1 q hq
        simp only [decide_eq_true_eq]
        omega
      have l : letAt (p :: s) x = p.2 := by
        unfold letAt
        rw [List.find?_cons_of_pos (by simpa using e)]
        rfl
      have p2 := hb p List.mem_cons_self
      rw [List.filter_cons_of_pos (by simpa using e), f0, l, if_pos (by omega), ← e]
    · have l : letAt (p :: s) x = letAt s x := by
        unfold letAt
        rw [List.find?_cons_of_neg (by simpa using e)]
      rw [List.filter_cons_of_neg (by simpa using e), ih, l]
theorem split_last {a : Int} {m : Int} (ha : a ≤ m) : ∀ {s : List (Int × Int)}, s.Pairwise (fun p q => p.1 < q.1) → s.filter (fun p => decide (a ≤ p.1 ∧ p.1 < m + 1)) = s.filter (fun p => decide (a ≤ p.1 ∧ p.1 < m)) ++ s.filter (fun p => decide (p.1 = m))
  | [], _ => rfl
  | p :: s, h => by
    obtain ⟨h1, h2⟩ := List.pairwise_cons.mp h
    have ih := split_last ha h2
    by_cases c1 : p.1 < m
    · have n1 : ¬ p.1 = m := by omega
      rw [List.filter_cons_of_neg (p := fun p : Int × Int => decide (p.1 = m)) (by simpa using n1)]
      by_cases c2 : a ≤ p.1
      · rw [List.filter_cons_of_pos (by simp; omega), List.filter_cons_of_pos (by simp; omega), ih]
        rfl
      · rw [List.filter_cons_of_neg (by simp; omega), List.filter_cons_of_neg (by simp; omega), ih]
    · have f0 : s.filter (fun p => decide (a ≤ p.1 ∧ p.1 < m)) = [] := List.filter_eq_nil_iff.mpr fun q hq => by
        have := h1 q hq
        simp only [decide_eq_true_eq]
        omega
      rw [f0, List.nil_append] at ih
      rw [List.filter_cons_of_neg (p := fun p : Int × Int => decide (a ≤ p.1 ∧ p.1 < m)) (by simp; omega), f0, List.nil_append]
      by_cases c2 : p.1 = m
      · rw [List.filter_cons_of_pos (by simp; omega), List.filter_cons_of_pos (by simpa using c2), ih]
      · rw [List.filter_cons_of_neg (by simp; omega), List.filter_cons_of_neg (by simpa using c2), ih]
/-- the boxes from a on that are not empty -/
theorem boxes {s : List (Int × Int)} (h : s.Pairwise (fun p q => p.1 < q.1)) (hb : ∀ p ∈ s, 1 ≤ p.2) (a d : Int) : ∀ n : Nat, ((List.range n).filter fun (k : Nat) => decide (0 < letAt s (a + (k : Int)))).map (fun (k : Nat) => (d + (k : Int), letAt s (a + (k : Int)))) = (s.filter fun p => decide (a ≤ p.1 ∧ p.1 < a + (n : Int))).map fun p => (p.1 - a + d, p.2)
  | 0 => by
    have : s.filter (fun p => decide (a ≤ p.1 ∧ p.1 < a + ((0 : Nat) : Int))) = [] := List.filter_eq_nil_iff.mpr fun q hq => by
      simp only [decide_eq_true_eq]
      omega
    rw [this]
    rfl
  | n + 1 => by
    have e : a + ((n + 1 : Nat) : Int) = a + (n : Int) + 1 := by omega
    rw [List.range_succ, List.filter_append, List.map_append, boxes h hb a d n, e, split_last (by omega) h, List.map_append, at_box h hb]
    congr 1
    by_cases c : 0 < letAt s (a + (n : Int))
    · rw [if_pos c, List.filter_cons_of_pos (by simpa using c)]
      show [_] = [_]
      have : a + (n : Int) - a + d = d + (n : Int) := by omega
      simp only [this]
    · rw [if_neg c, List.filter_cons_of_neg (by simpa using c)]
      rfl
end DL
namespace DL
open PySem L2
/-! ### plain answers stay -/
def Pn : Nat → PV → Prop
  | _, .int _ => True
  | _, .non => True
  | _, .str _ => True
  | n + 1, .tup xs => xs.length ≤ 20000 ∧ ∀ x ∈ xs, Pn n x
  | _, _ => False
theorem pn_int {n : Nat} {i : Int} : Pn n (.int i) := by cases n <;> trivial
theorem pn_non {n : Nat} : Pn n .non := by cases n <;> trivial
theorem pn_str {n : Nat} {x : Str} : Pn n (.str x) := by cases n <;> trivial
theorem pn_ints {n : Nat} {w : List Int} (h : w.length ≤ 20000) : Pn (n + 1) (tupI w) := ⟨by rw [List.length_map]; exact h, fun x hx => by
  obtain ⟨i, _, rfl⟩ := List.mem_map.mp hx
  exact pn_int⟩
theorem isO_str {x : Str} {S : AH} : isO (.p (.str x)) (.p .non) S = some (.p (.bl false), S) := rfl
theorem plain_pn : ∀ {n : Nat} {v : PV}, Pn n v → ∀ k, n < k → ∀ S : AH, d_law_plain k [.p v] S = .ok (.p v) S := by
  intro n
  induction n with
  | zero =>
    intro v h k hk S
    obtain ⟨k, rfl⟩ : ∃ j, k = j + 1 := ⟨k - 1, by omega⟩
    cases v with
    | int i => simp [d_law_plain]
    | non => simp [d_law_plain]
    | str x => simp [d_law_plain, isO_str]
    | _ => exact absurd h (by simp [Pn])
  | succ n ih =>
    intro v h k hk S
    obtain ⟨k, rfl⟩ : ∃ j, k = j + 1 := ⟨k - 1, by omega⟩
    cases v with
    | int i => simp [d_law_plain]
    | non => simp [d_law_plain]
    | str x => simp [d_law_plain, isO_str]
    | tup xs =>
      obtain ⟨hz, hx⟩ := h
      have hz2 : (dit xs).length ≤ 16777216 := by rw [dit_len]; omega
      have q : ∀ (V : DV) (x : Option DV) (S : AH), lcGo ckT (.nm 1) dYes (dCall (d_law_plain k) (dCons (dVar 1) dNil)) [some V, x] (dit xs) S = .ok xs S := fun V x0 S => by
        rw [lc_map trivial id (fun x q => by
          have := ih (hx x q) k (by omega)
          exact ⟨_, rfl, by simp [this]⟩), List.map_id]
      rw [d_law_plain]
      generalize d_law_plain k = F at *
      simp [ev_kLc hz2, wipeD, q]
    | _ => exact absurd h (by simp [Pn])
end DL
namespace DL
open PySem L2
abbrev Mf (S : AH) : Res DV := .exc "Malformed" [] S
abbrev Lg (S : AH) : Res DV := .exc "Refused" [("reason", .str "large")] S
def SeqV (V : PV) (xs : List PV) : Prop := V = .tup xs ∨ V = .lst xs
theorem same_loop {fb : Sig → AH → Out} {i : Nat} {δ : Sig} {S : AH} : ∀ (items : List DV) (y0 : Option DV), (∀ x ∈ items, fb (δ.set i (some x)) S = .nx (δ.set i (some x)) S) → ∃ y, forGo ckT (.nm i) fb items (δ.set i y0) S = .nx (δ.set i y) S
  | [], y0, _ => ⟨y0, for_nil⟩
  | x :: items, y0, h => by
    obtain ⟨y, e⟩ := same_loop items (some x) fun z hz => h z (List.mem_cons_of_mem _ hz)
    refine ⟨y, ?_⟩
    rw [for_nm, List.set_set, h x List.mem_cons_self, after_nx, e]
theorem mem_dit {vs : List PV} {x : DV} (h : x ∈ dit vs) : ∃ v ∈ vs, x = .p v := by
  obtain ⟨v, hv, rfl⟩ := List.mem_map.mp h
  exact ⟨v, hv, rfl⟩
theorem mem_rangeI {lo : Int} {n : Nat} {x : DV} (h : x ∈ rangeI lo n) : ∃ k < n, x = .p (.int (lo + (k : Int))) := by
  rw [rangeI_eq] at h
  obtain ⟨k, hk, rfl⟩ := List.mem_map.mp h
  exact ⟨k, List.mem_range.mp hk, rfl⟩
theorem lc_mapD {α : Type} {q : Pat} {fe : Sig → AH → Res DV} {δ : Sig} {S : AH} (f g : α → PV) : ∀ rs : List α, (∀ r ∈ rs, ∃ δ2, q.set (.p (f r)) δ = some δ2 ∧ fe δ2 S = .ok (.p (g r)) S) → lcGo ckT q dYes fe δ (dit (rs.map f)) S = .ok (rs.map g) S
  | [], _ => lc_nil trivial
  | r :: rs, h => by
    obtain ⟨δ2, h1, h2⟩ := h r List.mem_cons_self
    rw [List.map_cons, dit_cons, lc_take trivial h1 rfl h2, lc_mapD f g rs fun y hy => h y (List.mem_cons_of_mem _ hy)]
    rfl
theorem lc_filterD {α : Type} {q : Pat} {fc : Sig → AH → Res Bool} {fe : Sig → AH → Res DV} {δ : Sig} {S : AH} (f : α → PV) (p : α → Bool) (g : α → PV) : ∀ rs : List α, (∀ r ∈ rs, ∃ δ2, q.set (.p (f r)) δ = some δ2 ∧ fc δ2 S = .ok (p r) S ∧ (p r = true → fe δ2 S = .ok (.p (g r)) S)) → lcGo ckT q fc fe δ (dit (rs.map f)) S = .ok ((rs.filter p).map g) S
  | [], _ => lc_nil trivial
  | r :: rs, h => by
    obtain ⟨δ2, h1, h2, h3⟩ := h r List.mem_cons_self
    have ih := lc_filterD f p g rs fun y hy => h y (List.mem_cons_of_mem _ hy)
    rw [List.map_cons, dit_cons]
    cases e : p r with
    | true =>
      rw [e] at h2
      rw [lc_take trivial h1 h2 (h3 e), ih, List.filter_cons_of_pos e]
      rfl
    | false =>
      rw [e] at h2
      rw [lc_skip trivial h1 h2, ih, List.filter_cons_of_neg (by rw [e]; decide)]
theorem dct_last {kvs : List (Int × PV)} {S : AH} : dctOf (.c S.length) (S ++ [.dct kvs]) = some kvs := by
  unfold dctOf
  simp
theorem dit_len_s (s : List (Int × Int)) : (dit (s.map bV)).length = s.length := by rw [dit_len, List.length_map]
theorem sv_std {s : List (Int × Int)} (h : Std s) : SV (sV s) := sv_balls (by have := h.l; omega)
theorem chk_ok {s : List (Int × Int)} (h : Std s) (S : AH) : d_check_standing [.p (sV s)] S = .ok (.p .non) S := by
  have e := stand_any (sv_std h)
  rw [stand_yes h] at e
  simp [d_check_standing, b_check_standing_, e]
theorem chk_bad {v : PV} (h : SV v) (hb : standB v = false) (S : AH) : d_check_standing [.p v] S = Mf S := by
  have e := stand_any h
  rw [hb] at e
  simp [d_check_standing, b_check_standing_, e]
end DL
namespace DL
open PySem L2
/-! ### the drawn standing -/
/-- balls before the place p -/
structure Pre (s : List (Int × Int)) (p : Int) : Prop where
  b : ∀ q ∈ s, (-1000000000000 ≤ q.1 ∧ q.1 < p) ∧ (1 ≤ q.2 ∧ q.2 ≤ 3)
  a : s.Pairwise (fun p q => p.1 < q.1)
theorem pre_snoc {s : List (Int × Int)} {p p' v : Int} (h : Pre s p) (h0 : -1000000000000 ≤ p) (h1 : p < p') (hv : 1 ≤ v ∧ v ≤ 3) : Pre (s ++ [(p, v)]) p' := ⟨fun q hq => by
  rcases List.mem_append.mp hq with hq | hq
  · have := h.b q hq
    omega
  · cases List.mem_singleton.mp hq
    exact ⟨⟨h0, h1⟩, hv⟩, by
  rw [List.pairwise_append]
  refine ⟨h.a, by simp, fun a ha b hb => ?_⟩
  cases List.mem_singleton.mp hb
  exact (h.b a ha).1.2⟩
theorem p10_5 (S : AH) : powO (.p (.int 10)) (.p (.int 5)) S = some (.p (.int 100000), S) := powO_int ⟨by decide, by decide, by decide⟩
theorem p10_7 (S : AH) : powO (.p (.int 10)) (.p (.int 7)) S = some (.p (.int 10000000), S) := powO_int ⟨by decide, by decide, by decide⟩
theorem p10_12 (S : AH) : powO (.p (.int 10)) (.p (.int 12)) S = some (.p (.int 1000000000000), S) := powO_int ⟨by decide, by decide, by decide⟩
theorem p10_13 (S : AH) : powO (.p (.int 10)) (.p (.int 13)) S = some (.p (.int 10000000000000), S) := powO_int ⟨by decide, by decide, by decide⟩
theorem p10_15 (S : AH) : powO (.p (.int 10)) (.p (.int 15)) S = some (.p (.int 1000000000000000), S) := powO_int ⟨by decide, by decide, by decide⟩
theorem st_turn (M d6 : Option DV) {near p : Int} (hn : 2 ≤ near ∧ near ≤ 9) {cs : List Int} (h1 : 1 ≤ cs.length ∧ cs.length ≤ 5) (hc : ∀ i ∈ cs, 1 ≤ i ∧ i ≤ 3) {s : List (Int × Int)} (hz : s.length ≤ 900) {c : Cell} (hs : St2 c) :
    ∃ v p' c', St2 c' ∧ (1 ≤ v ∧ v ≤ 3) ∧ (p < p' ∧ p' ≤ p + 100009) ∧ L0_law_standing [some (.c 1), M, some (.p (.int near)), some (.p (.lst (cs.map PV.int))), some (.p (.int p)), some (.c 2), d6] [T, c, .lst (s.map bV)] = .nx [some (.c 1), M, some (.p (.int near)), some (.p (.lst (cs.map PV.int))), some (.p (.int p')), some (.c 2), d6] [T, c', .lst ((s ++ [(p, v)]).map bV)] := by
  obtain ⟨k, c1, hc1, hk, t1⟩ := take_ok hs (m := (cs.length : Int)) [.lst (s.map bV)] (by omega) (by omega)
  obtain ⟨v, av, _, hv⟩ := atI_lt (xs := cs) hk.1 (by omega)
  obtain ⟨u1, c2, hc2, hu1, t2⟩ := take_ok hc1 (m := near) [.lst ((s ++ [(p, v)]).map bV)] (by omega) (by omega)
  obtain ⟨u2, c3, hc3, hu2, t3⟩ := take_ok hc2 (m := 2) [.lst ((s ++ [(p, v)]).map bV)] (by omega) (by omega)
  obtain ⟨u3, c4, hc4, hu3, t4⟩ := take_ok hc3 (m := 12) [.lst ((s ++ [(p, v)]).map bV)] (by omega) (by omega)
  have mu : ∀ S : AH, mulO1 (.p (.int u1)) (.p (.int u2)) S = some (.p (.int (u1 * u2)), S) := fun S => mulO1_int (mulOk_r (by omega))
  have b12 : 0 ≤ u1 * u2 ∧ u1 * u2 ≤ 8 := by
    have : u2 = 0 ∨ u2 = 1 := by omega
    rcases this with rfl | rfl <;> omega
  have ap : ∀ c : Cell, appendM (.c 2) [.p (.tup [.int p, .int v])] [T, c, .lst (s.map bV)] = some (.p .non, [T, c, .lst ((s ++ [(p, v)]).map bV)]) := fun c => by
    rw [append_c (n := 2) (S := [T, c, .lst (s.map bV)]) rfl (by rw [List.length_map]; omega), List.map_append]
    rfl
  have km : ∀ (fs : Sig → AH → Res (List DV)) (δ : Sig) (c : Cell), kMeth appendM fs δ (.c 2) [T, c, .lst (s.map bV)] = (fs δ [T, c, .lst (s.map bV)]).bind (kMeth2 appendM (.c 2)) := fun fs δ c => kMeth_c rfl
  have ix : ∀ S : AH, ixO (.p (.lst (cs.map PV.int))) (.p (.int k)) S = some (.p (.int v), S) := fun S => ixO_lst (atI_map PV.int av)
  have ln : ∀ S : AH, lenO [.p (.lst (cs.map PV.int))] S = some (.p (.int (cs.length : Int)), S) := fun S => by simp
  by_cases q : u3 = 0
  · subst q
    obtain ⟨j, c5, hc5, hj, t5⟩ := take_ok hc4 (m := 2) [.lst ((s ++ [(p, v)]).map bV)] (by omega) (by omega)
    obtain ⟨g, hg, ag⟩ : ∃ g : Int, (g = 30 ∨ g = 100000) ∧ ∀ S : AH, ixO (.p (.lst [.int 30, .int 100000])) (.p (.int j)) S = some (.p (.int g), S) := by
      have : j = 0 ∨ j = 1 := by omega
      rcases this with rfl | rfl
      · exact ⟨30, .inl rfl, fun S => ixO_lst rfl⟩
      · exact ⟨100000, .inr rfl, fun S => ixO_lst rfl⟩
    obtain ⟨u4, c6, hc6, hu4, t6⟩ := take_ok hc5 (m := g) [.lst ((s ++ [(p, v)]).map bV)] (by omega) (by omega)
    refine ⟨v, p + 1 + u1 * u2 + u4, c6, hc6, hc v hv, by omega, ?_⟩
    generalize (s ++ [(p, v)]).map bV = out at *
    simp [L0_law_standing, km, ln, t1, ix, ap, t2, t3, mu, t4, p10_5, t5, ag, t6]
  · refine ⟨v, p + 1 + u1 * u2, c4, hc4, hc v hv, by omega, ?_⟩
    generalize (s ++ [(p, v)]).map bV = out at *
    simp [L0_law_standing, km, ln, t1, ix, ap, t2, t3, mu, t4, q]
theorem st_loop (M : Option DV) {near : Int} (hn : 2 ≤ near ∧ near ≤ 9) {cs : List Int} (h1 : 1 ≤ cs.length ∧ cs.length ≤ 5) (hc : ∀ i ∈ cs, 1 ≤ i ∧ i ≤ 3) : ∀ (m : Nat) (lo : Int) (s : List (Int × Int)) (p : Int) (c : Cell) (d6 : Option DV), St2 c → Pre s p → -1000000000000 ≤ p → s.length + m ≤ 900 →
    ∃ s' p' c' d6', St2 c' ∧ Pre s' p' ∧ p' ≤ p + (m : Int) * 100009 ∧ s'.length = s.length + m ∧ forGo ckT (.nm 6) L0_law_standing (rangeI lo m) [some (.c 1), M, some (.p (.int near)), some (.p (.lst (cs.map PV.int))), some (.p (.int p)), some (.c 2), d6] [T, c, .lst (s.map bV)] = .nx [some (.c 1), M, some (.p (.int near)), some (.p (.lst (cs.map PV.int))), some (.p (.int p')), some (.c 2), d6'] [T, c', .lst (s'.map bV)]
  | 0, lo, s, p, c, d6, hs, hp, h0, hz => ⟨s, p, c, d6, hs, hp, by omega, by simp, for_nil⟩
  | m + 1, lo, s, p, c, d6, hs, hp, h0, hz => by
    obtain ⟨v, p1, c1, hs1, hv, hp1, e1⟩ := st_turn M (some (.p (.int lo))) (p := p) hn h1 hc (s := s) (by omega) hs
    obtain ⟨s', p', c', d6', a1, a2, a3, a4, e2⟩ := st_loop M hn h1 hc m (lo + 1) (s ++ [(p, v)]) p1 c1 (some (.p (.int lo))) hs1 (pre_snoc hp h0 hp1.1 hv) (by omega) (by simp; omega)
    refine ⟨s', p', c', d6', a1, a2, by omega, by rw [a4]; simp; omega, ?_⟩
    rw [range_succ, for_nm]
    simp only [List.set_cons_succ, List.set_cons_zero]
    rw [e1, after_nx, e2]
theorem lstand_ok {c : Cell} (hs : St2 c) : ∃ s c', St2 c' ∧ Std s ∧ d_law_standing [.c 1, .p (.int 12)] [T, c] = .ok (.p (sV s)) [T, c'] := by
  obtain ⟨i1, c1, hc1, hi1, t1⟩ := take_ok hs (m := 3) [] (by omega) (by omega)
  obtain ⟨near, hn, e1⟩ : ∃ near : Int, (2 ≤ near ∧ near ≤ 9) ∧ ∀ S : AH, ixO (.p (.lst [.int 2, .int 4, .int 9])) (.p (.int i1)) S = some (.p (.int near), S) := by
    have : i1 = 0 ∨ i1 = 1 ∨ i1 = 2 := by omega
    rcases this with rfl | rfl | rfl
    · exact ⟨2, by decide, fun S => ixO_lst rfl⟩
    · exact ⟨4, by decide, fun S => ixO_lst rfl⟩
    · exact ⟨9, by decide, fun S => ixO_lst rfl⟩
  obtain ⟨i2, c2, hc2, hi2, t2⟩ := take_ok hc1 (m := 5) [] (by omega) (by omega)
  obtain ⟨cs, hcs, e2⟩ : ∃ cs : List Int, ((1 ≤ cs.length ∧ cs.length ≤ 5) ∧ ∀ i ∈ cs, 1 ≤ i ∧ i ≤ 3) ∧ ∀ S : AH, ixO (.p (.lst [.lst [.int 1], .lst [.int 1, .int 2], .lst [.int 1, .int 2, .int 3], .lst [.int 2, .int 3, .int 1, .int 1, .int 2], .lst [.int 3, .int 1]])) (.p (.int i2)) S = some (.p (.lst (cs.map PV.int)), S) := by
    have : i2 = 0 ∨ i2 = 1 ∨ i2 = 2 ∨ i2 = 3 ∨ i2 = 4 := by omega
    rcases this with rfl | rfl | rfl | rfl | rfl
    · exact ⟨[1], by decide, fun S => ixO_lst rfl⟩
    · exact ⟨[1, 2], by decide, fun S => ixO_lst rfl⟩
    · exact ⟨[1, 2, 3], by decide, fun S => ixO_lst rfl⟩
    · exact ⟨[2, 3, 1, 1, 2], by decide, fun S => ixO_lst rfl⟩
    · exact ⟨[3, 1], by decide, fun S => ixO_lst rfl⟩
  obtain ⟨i3, c3, hc3, hi3, t3⟩ := take_ok hc2 (m := 41) [] (by omega) (by omega)
  obtain ⟨i4, c4, hc4, hi4, t4⟩ := take_ok hc3 (m := 4) [] (by omega) (by omega)
  obtain ⟨p, hp, e4⟩ : ∃ p : Int, (-1000000000000 ≤ p ∧ p ≤ 1000000000000 - 10000000) ∧ ∀ S : AH, ixO (.p (.lst [.int 0, .int (i3 - 20), .int (-1000000000000), .int 999990000000])) (.p (.int i4)) S = some (.p (.int p), S) := by
    have : i4 = 0 ∨ i4 = 1 ∨ i4 = 2 ∨ i4 = 3 := by omega
    rcases this with rfl | rfl | rfl | rfl
    · exact ⟨_, by decide, fun S => ixO_lst rfl⟩
    · exact ⟨i3 - 20, by omega, fun S => ixO_lst rfl⟩
    · exact ⟨_, by decide, fun S => ixO_lst rfl⟩
    · exact ⟨_, by decide, fun S => ixO_lst rfl⟩
  obtain ⟨m, c5, hc5, hm, t5⟩ := take_ok hc4 (m := 13) [.lst []] (by omega) (by omega)
  obtain ⟨k, rfl⟩ : ∃ k : Nat, m = (k : Int) := ⟨m.toNat, by omega⟩
  obtain ⟨s, p', c6, d6, a1, a2, a3, a4, lo⟩ := st_loop (some (.p (.int 12))) hn hcs.1 hcs.2 k 0 [] p c5 none hc5 ⟨by simp, by simp⟩ hp.1 (by simp; omega)
  rw [List.map_nil] at lo
  refine ⟨s, c6, a1, ⟨by simp at a4; omega, fun q hq => by have := a2.b q hq; omega, a2.a⟩, ?_⟩
  obtain ⟨y0, z0, rfl⟩ := hs
  obtain ⟨y6, z6, rfl⟩ := a1
  have tc := tupleO_c (n := 2) (S := [T, .lst [.int y6, .int z6], .lst (s.map bV)]) (xs := s.map bV) rfl
  simp [-List.map_map, d_law_standing, b_law_standing_, p10_12, p10_7, t1, e1, t2, e2, t3, t4, e4, t5, rg_len k (by omega), lo, tc, sV]
end DL
namespace DL
open PySem L2
/-! ### the carrier: what it holds, what it lays down -/
/-- the letters held, ascending -/
def heldL (h : List Int) : List Int := ((List.range 4).filter fun (k : Nat) => decide (0 < h.getD k 0)).map fun (k : Nat) => (k : Int)
/-- the letter laid down -/
def ldL (h : List Int) (l : Int) : Int := match ((heldL h).filter fun a => decide (a < l)).getLast? with
  | some a => a
  | none => ((heldL h).getLast?).getD 0
theorem ix_cell {n k : Nat} {h : List Int} {S : AH} (e : S[n]? = some (.lst (h.map PV.int))) (hk : k < h.length) : ixO (.c n) (.p (.int (k : Int))) S = some (.p (.int (h.getD k 0)), S) :=
  ixO_c e (atI_at (by omega) (by rw [Int.toNat_natCast, List.getElem?_map, List.getD_eq_getElem?_getD, List.getElem?_eq_getElem hk]; rfl))
theorem held_ok {n : Nat} {h : List Int} {S : AH} (e : S[n]? = some (.lst (h.map PV.int))) (h4 : h.length = 4) : d_held_letters [.c n] S = .ok (.p (.lst ((heldL h).map PV.int))) S := by
  have r4 : ∀ S : AH, kRng1 [.p (.int 4)] S = .ok (rangeI 0 4, ckT) S := fun S => rg_len 4 (by omega) S
  have hz : (rangeI 0 4).length ≤ 16777216 := by rw [rangeI_len]; omega
  have l : lcGo ckT (.nm 1) (blOf (dBin gtO (dBin ixO (dVar 0) (dVar 1)) (dC (.int 0)))) (dVar 1) [some (.c n), none] (rangeI 0 4) S = .ok ((heldL h).map PV.int) S := by
    rw [lc_rfilter (fun (k : Nat) => decide (0 < h.getD k 0)) (fun (k : Nat) => .int (k : Int)) (fun k hk => by
      have ix := ix_cell (k := k) e (by omega)
      generalize h.getD k 0 = w at *
      simp [ix]) (fun k hk _ => by simp)]
    unfold heldL
    rw [List.map_map]
    rfl
  simp [d_held_letters, b_held_letters_, r4, ev_kLc hz, wipeD, l]
theorem last_lst {l : List Int} {a : Int} (h : l.getLast? = some a) (S : AH) : ixO (.p (.lst (l.map PV.int))) (.p (.int (-1))) S = some (.p (.int a), S) := by
  obtain ⟨u, rfl⟩ := List.getLast?_eq_some_iff.mp h
  rw [List.map_append]
  exact ixO_lst atI_last
theorem laid_ok {n : Nat} {h : List Int} {S : AH} (e : S[n]? = some (.lst (h.map PV.int))) (h4 : h.length = 4) (hp : heldL h ≠ []) (l : Int) : d_laid_down [.c n, .p (.int l)] S = .ok (.p (.int (ldL h l))) S := by
  have he := held_ok e h4
  have hz : (dit ((heldL h).map PV.int)).length ≤ 16777216 := by
    rw [dit_len, List.length_map]
    unfold heldL
    rw [List.length_map]
    exact Nat.le_trans (List.length_filter_le _ _) (by rw [List.length_range]; omega)
  have lc : lcGo ckT (.nm 3) (blOf (dBin ltO (dVar 3) (dVar 1))) (dVar 3) [some (.c n), some (.p (.int l)), none, none] (dit ((heldL h).map PV.int)) S = .ok (((heldL h).filter fun a => decide (a < l)).map PV.int) S :=
    lc_filterD PV.int (fun a => decide (a < l)) PV.int (heldL h) fun a _ => ⟨_, rfl, by simp, fun _ => by simp⟩
  cases hb : ((heldL h).filter fun a => decide (a < l)).getLast? with
  | some a =>
    have la := last_lst hb
    have ne : 0 < ((heldL h).filter fun a => decide (a < l)).length := by
      cases hq : (heldL h).filter fun a => decide (a < l) with
      | nil => rw [hq] at hb; cases hb
      | cons x xs => simp
    have ld : ldL h l = a := by unfold ldL; rw [hb]
    rw [ld]
    generalize ((heldL h).filter fun a => decide (a < l)) = bl at *
    simp [d_laid_down, b_laid_down_, he, ev_kLc hz, wipeD, lc, ne, la]
  | none =>
    have nb := List.getLast?_eq_none_iff.mp hb
    obtain ⟨a, ha⟩ : ∃ a, (heldL h).getLast? = some a := by
      cases hg : (heldL h).getLast? with
      | none => exact absurd (List.getLast?_eq_none_iff.mp hg) hp
      | some a => exact ⟨a, rfl⟩
    have la := last_lst ha
    have ld : ldL h l = a := by unfold ldL; rw [hb, ha]; rfl
    rw [nb] at lc
    rw [ld]
    simp [d_laid_down, b_laid_down_, he, ev_kLc hz, wipeD, lc, la]
/-! ### the same for a run back -/
def ldB (h : List Int) (l : Int) : Int := match ((heldL h).filter fun a => decide (l < a)).head? with
  | some a => a
  | none => ((heldL h).head?).getD 0
theorem first_lst {l : List Int} {a : Int} (h : l.head? = some a) (S : AH) : ixO (.p (.lst (l.map PV.int))) (.p (.int 0)) S = some (.p (.int a), S) := by
  cases l with
  | nil => cases h
  | cons b l =>
    cases h
    exact ixO_lst (atI_at (by decide) rfl)
theorem laidB_ok {n : Nat} {h : List Int} {S : AH} (e : S[n]? = some (.lst (h.map PV.int))) (h4 : h.length = 4) (hp : heldL h ≠ []) (l : Int) : d_laid_back [.c n, .p (.int l)] S = .ok (.p (.int (ldB h l))) S := by
  have he := held_ok e h4
  have hz : (dit ((heldL h).map PV.int)).length ≤ 16777216 := by
    rw [dit_len, List.length_map]
    unfold heldL
    rw [List.length_map]
    exact Nat.le_trans (List.length_filter_le _ _) (by rw [List.length_range]; omega)
  have lc : lcGo ckT (.nm 3) (blOf (dBin gtO (dVar 3) (dVar 1))) (dVar 3) [some (.c n), some (.p (.int l)), none, none] (dit ((heldL h).map PV.int)) S = .ok (((heldL h).filter fun a => decide (l < a)).map PV.int) S :=
    lc_filterD PV.int (fun a => decide (l < a)) PV.int (heldL h) fun a _ => ⟨_, rfl, by simp, fun _ => by simp⟩
  cases hb : ((heldL h).filter fun a => decide (l < a)).head? with
  | some a =>
    have la := first_lst hb
    have ne : 0 < ((heldL h).filter fun a => decide (l < a)).length := by
      cases hq : (heldL h).filter fun a => decide (l < a) with
      | nil => rw [hq] at hb; cases hb
      | cons x xs => simp
    have ld : ldB h l = a := by unfold ldB; rw [hb]
    rw [ld]
    generalize ((heldL h).filter fun a => decide (l < a)) = bl at *
    simp [d_laid_back, b_laid_back_, he, ev_kLc hz, wipeD, lc, ne, la]
  | none =>
    have nb := List.head?_eq_none_iff.mp hb
    obtain ⟨a, ha⟩ : ∃ a, (heldL h).head? = some a := by
      cases hg : (heldL h).head? with
      | none => exact absurd (List.head?_eq_none_iff.mp hg) hp
      | some a => exact ⟨a, rfl⟩
    have la := first_lst ha
    have ld : ldB h l = a := by unfold ldB; rw [hb, ha]; rfl
    rw [nb] at lc
    rw [ld]
    simp [d_laid_back, b_laid_back_, he, ev_kLc hz, wipeD, lc, la]
/-- both ways: true ahead, false back -/
def ldX (b : Bool) (h : List Int) (l : Int) : Int := if b = true then ldL h l else ldB h l
def epD (b : Bool) : Int := if b = true then 1 else -1
def gn (b : Bool) : Str := if b = true then "laid_down" else "laid_back"
noncomputable def dgn (b : Bool) : List DV → AH → Res DV := if b = true then d_laid_down else d_laid_back
theorem laidX_ok (b : Bool) {n : Nat} {h : List Int} {S : AH} (e : S[n]? = some (.lst (h.map PV.int))) (h4 : h.length = 4) (hp : heldL h ≠ []) (l : Int) : dgn b [.c n, .p (.int l)] S = .ok (.p (.int (ldX b h l))) S := by
  cases b
  · exact laidB_ok e h4 hp l
  · exact laid_ok e h4 hp l
end DL
namespace DL
open PySem L2
theorem ev_augS {o : Op2} {fo fi fe : Sig → AH → Res DV} {δ : Sig} {S S1 S2 S3 : AH} {n : Nat} {k : Int} {xs : List PV} {x v : PV} {y : DV} (h1 : fo δ S = .ok (.c n) S) (h2 : fi δ S = .ok (.p (.int k)) S1) (h3 : S1[n]? = some (.lst xs)) (h4 : atI xs k = some x) (h5 : fe δ S1 = .ok y S2) (h6 : o (.p x) y S2 = some (.p v, S2)) (h7 : setIx (.c n) (.p (.int k)) (.p v) S2 = some S3) : dAugS o fo fi fe δ S = .nx δ S3 := by
  have h3' : litems (.c n) S1 = some xs := litems_c h3
  unfold dAugS
  simp only [h1, h2, h5, out_ok, h3', Option.bind_some, h4, h6, lift_some, h7]
theorem seq_step {f g : Sig → AH → Out} {δ δ1 : Sig} {S S1 : AH} {o : Out} (h : f δ S = .nx δ1 S1) (h2 : g δ1 S1 = o) : dSeq f g δ S = o := by
  rw [ev_seq, h]
  exact h2
theorem okC_tri {n : Nat} {a b c a' b' c' : Cell} (h1 : okc n a a') (h2 : okc n b b') (h3 : okc n c c') : ∀ R : AH, okC n (R ++ [a, b, c]) (R ++ [a', b', c'])
  | [] => ⟨h1, h2, h3, trivial⟩
  | x :: R => ⟨okc_self n x, okC_tri h1 h2 h3 R⟩
theorem mem_held {h : List Int} {a : Int} (m : a ∈ heldL h) : 0 ≤ a ∧ a ≤ 3 ∧ 0 < h.getD a.toNat 0 := by
  unfold heldL at m
  obtain ⟨k, hk, rfl⟩ := List.mem_map.mp m
  obtain ⟨h1, h2⟩ := List.mem_filter.mp hk
  have := List.mem_range.mp h1
  rw [decide_eq_true_eq] at h2
  exact ⟨by omega, by omega, by rw [Int.toNat_natCast]; exact h2⟩
theorem ldB_mem {h : List Int} (hp : heldL h ≠ []) (l : Int) : ldB h l ∈ heldL h := by
  unfold ldB
  cases hb : ((heldL h).filter fun a => decide (l < a)).head? with
  | some a => exact (List.mem_filter.mp (List.mem_of_mem_head? hb)).1
  | none =>
    cases hg : (heldL h).head? with
    | none => exact absurd (List.head?_eq_none_iff.mp hg) hp
    | some a => exact List.mem_of_mem_head? hg
theorem ld_mem {h : List Int} (hp : heldL h ≠ []) (l : Int) : ldL h l ∈ heldL h := by
  unfold ldL
  cases hb : ((heldL h).filter fun a => decide (a < l)).getLast? with
  | some a => exact (List.mem_filter.mp (List.mem_of_getLast? hb)).1
  | none =>
    cases hg : (heldL h).getLast? with
    | none => exact absurd (List.getLast?_eq_none_iff.mp hg) hp
    | some a => exact List.mem_of_getLast? hg
theorem ldX_mem (b : Bool) {h : List Int} (hp : heldL h ≠ []) (l : Int) : ldX b h l ∈ heldL h := by
  cases b
  · exact ldB_mem hp l
  · exact ld_mem hp l
/-- what is held behind a visit -/
def setH (h : List Int) (o l : Int) : List Int := (h.set o.toNat (h.getD o.toNat 0 - 1)).set l.toNat ((h.set o.toNat (h.getD o.toNat 0 - 1)).getD l.toNat 0 + 1)
def visH (b : Bool) (h : List Int) (l : Int) : List Int := setH h (ldX b h l) l
def visT (b : Bool) (h : List Int) (z l : Int) : PV := .tup [.int (epD b * z), .int l, .int (ldX b h l), tupI (h.drop 1)]
theorem aug_cell {R : AH} {B C : Cell} {h : List Int} {k : Int} {δ : Sig} {fo fi fe : Sig → AH → Res DV} {g : Int → Int → Int} {d : Int} (h1 : ∀ S, fo δ S = .ok (.c R.length) S) (h2 : ∀ S, fi δ S = .ok (.p (.int k)) S) (h3 : ∀ S, fe δ S = .ok (.p (.int d)) S) (k0 : 0 ≤ k) (k1 : k.toNat < h.length) :
    dAugS (intO2 g) fo fi fe δ (R ++ [.lst (h.map PV.int), B, C]) = .nx δ (R ++ [.lst ((h.set k.toNat (g (h.getD k.toNat 0) d)).map PV.int), B, C]) := by
  have at0 : atI (h.map PV.int) k = some (.int (h.getD k.toNat 0)) := atI_at k0 (by rw [List.getElem?_map, List.getD_eq_getElem?_getD, List.getElem?_eq_getElem k1]; rfl)
  have hk : k = (k.toNat : Int) := by omega
  refine ev_augS (n := R.length) (k := k) (xs := h.map PV.int) (x := .int (h.getD k.toNat 0)) (v := .int (g (h.getD k.toNat 0) d)) (y := .p (.int d)) (h1 _) (h2 _) tri_get0 at0 (h3 _) rfl ?_
  rw [hk, setIx_c (xs := h.map PV.int) tri_get0 (by rw [List.length_map]; exact k1), tri_set0, List.map_set, Int.toNat_natCast]
theorem vis_ok (b : Bool) (R : AH) {h : List Int} {found : List PV} {l : Int} (x : Int) (h4 : h.length = 4) (hp : heldL h ≠ []) (hl : 0 ≤ l ∧ l ≤ 3) (hz : found.length ≤ 900) :
    d_visited_visit [.p (.int l)] [some (.p (.glob (gn b))), some (.c R.length), some (.c (R.length + 1)), some (.p (.int (epD b * x)))] (R ++ [.lst (h.map PV.int), .lst found, .fn]) = .ok (.p .non) (R ++ [.lst ((visH b h l).map PV.int), .lst (found ++ [visT b h x l]), .fn]) := by
  have la := laidX_ok b (n := R.length) (h := h) (S := R ++ [.lst (h.map PV.int), .lst found, .fn]) tri_get0 h4 hp l
  obtain ⟨m1, m2, _⟩ := mem_held (ldX_mem b hp l)
  have lt : ∀ S : AH, dCallV [("laid_down", d_laid_down), ("laid_back", d_laid_back)] (dVar 1) (dCons (dVar 2) (dCons (dVar 0) dNil)) [some (.p (.int l)), some (.p (.glob (gn b))), some (.c R.length), some (.c (R.length + 1)), some (.p (.int (epD b * x))), some (.p (tupI (h.drop 1))), none] S = dgn b [.c R.length, .p (.int l)] S := fun S => by
    rw [ev_callV (tab := [("laid_down", d_laid_down), ("laid_back", d_laid_back)]) (F := dgn b) (n := gn b) rfl (by cases b <;> rfl)]
    rfl
  have body : b_visited_visit [some (.p (.int l)), some (.p (.glob (gn b))), some (.c R.length), some (.c (R.length + 1)), some (.p (.int (epD b * x))), none, none] (R ++ [.lst (h.map PV.int), .lst found, .fn]) = .nx [some (.p (.int l)), some (.p (.glob (gn b))), some (.c R.length), some (.c (R.length + 1)), some (.p (.int (epD b * x))), some (.p (tupI (h.drop 1))), some (.p (.int (ldX b h l)))] (R ++ [.lst ((visH b h l).map PV.int), .lst (found ++ [visT b h x l]), .fn]) := by
    unfold b_visited_visit
    refine seq_step (δ1 := [some (.p (.int l)), some (.p (.glob (gn b))), some (.c R.length), some (.c (R.length + 1)), some (.p (.int (epD b * x))), some (.p (tupI (h.drop 1))), none]) (S1 := R ++ [.lst (h.map PV.int), .lst found, .fn]) ?_ ?_
    · have sl : ∀ S : AH, S = R ++ [.lst (h.map PV.int), .lst found, .fn] → slO (.c R.length) (some 1) none S = some (.p (.lst ((h.drop 1).map PV.int)), S) := fun S eS => by
        subst eS
        unfold slO
        rw [litems_c tri_get0]
        show some (DV.p (.lst (cutL (h.map PV.int) (some 1) none)), _) = _
        rw [cutL_map, show ((1 : Int)) = ((1 : Nat) : Int) by rfl, cut_from]
      have sl := sl _ rfl
      generalize R ++ [.lst (h.map PV.int), .lst found, .fn] = SS at *
      simp [-List.map_drop, -List.drop_one, sl]
    refine seq_step (δ1 := [some (.p (.int l)), some (.p (.glob (gn b))), some (.c R.length), some (.c (R.length + 1)), some (.p (.int (epD b * x))), some (.p (tupI (h.drop 1))), some (.p (.int (ldX b h l)))]) (S1 := R ++ [.lst (h.map PV.int), .lst found, .fn]) ?_ ?_
    · unfold dSet
      rw [lt, la]
      rfl
    refine seq_step (aug_cell (k := ldX b h l) (d := 1) (fun S => by simp) (fun S => by simp) (fun S => by simp) m1 (by omega)) ?_
    refine seq_step (aug_cell (k := l) (d := 1) (fun S => by simp) (fun S => by simp) (fun S => by simp) hl.1 (by rw [List.length_set]; omega)) ?_
    have e2 : (h.set (ldX b h l).toNat (h.getD (ldX b h l).toNat 0 - 1)).set l.toNat ((h.set (ldX b h l).toNat (h.getD (ldX b h l).toNat 0 - 1)).getD l.toNat 0 + 1) = visH b h l := rfl
    rw [e2]
    have km : ∀ (fs : Sig → AH → Res (List DV)) (δ : Sig), kMeth appendM fs δ (.c (R.length + 1)) (R ++ [.lst ((visH b h l).map PV.int), .lst found, .fn]) = (fs δ (R ++ [.lst ((visH b h l).map PV.int), .lst found, .fn])).bind (kMeth2 appendM (.c (R.length + 1))) := fun fs δ => kMeth_c tri_get1
    have ap : appendM (.c (R.length + 1)) [.p (visT b h x l)] (R ++ [.lst ((visH b h l).map PV.int), .lst found, .fn]) = some (.p .non, R ++ [.lst ((visH b h l).map PV.int), .lst (found ++ [visT b h x l]), .fn]) := by
      rw [append_c tri_get1 (by omega), tri_set1]
    unfold visT at ap
    simp only [visT]
    generalize R ++ [.lst ((visH b h l).map PV.int), .lst found, .fn] = SS at *
    simp [-List.map_drop, -List.drop_one, km, ap]
  unfold d_visited_visit dLoc
  rw [if_pos ⟨rfl, rfl⟩]
  show gcK _ false (b_visited_visit [some (.p (.int l)), some (.p (.glob (gn b))), some (.c R.length), some (.c (R.length + 1)), some (.p (.int (epD b * x))), none, none] (R ++ [.lst (h.map PV.int), .lst found, .fn])) = _
  rw [body]
  refine (gc_nx (okC_tri (n := (R ++ [Cell.lst (h.map PV.int), .lst found, .fn]).length) (a := .lst (h.map PV.int)) (b := .lst found) (c := .fn) (a' := .lst ((visH b h l).map PV.int)) (b' := .lst (found ++ [visT b h x l])) (c' := .fn) trivial trivial trivial R)).trans ?_
  have : (R ++ [Cell.lst (h.map PV.int), .lst found, .fn]).length = (R ++ [Cell.lst ((visH b h l).map PV.int), .lst (found ++ [visT b h x l]), .fn]).length := by simp
  rw [this, List.take_length]
end DL
namespace DL
open PySem L2
/-! ### runs over boxes, in plain Lean -/
/-- a carrier's counts -/
structure Hd (h : List Int) (l : Int) : Prop where
  l4 : h.length = 4
  nn : ∀ i ∈ h, 0 ≤ i
  s : h.sum = l
theorem hd_split {h : List Int} {l : Int} (H : Hd h l) : ∃ a b c d : Int, h = [a, b, c, d] ∧ 0 ≤ a ∧ 0 ≤ b ∧ 0 ≤ c ∧ 0 ≤ d ∧ a + b + c + d = l := by
  obtain ⟨l4, nn, s⟩ := H
  match h, l4 with
  | [a, b, c, d], _ =>
    refine ⟨a, b, c, d, rfl, nn a (by simp), nn b (by simp), nn c (by simp), nn d (by simp), ?_⟩
    simp at s
    omega
theorem held4 (a b c d : Int) : heldL [a, b, c, d] = (if 0 < a then [0] else []) ++ ((if 0 < b then [1] else []) ++ ((if 0 < c then [2] else []) ++ (if 0 < d then [3] else []))) := by
  unfold heldL
  rw [show List.range 4 = [0, 1, 2, 3] from rfl]
  by_cases h0 : 0 < a <;> by_cases h1 : 0 < b <;> by_cases h2 : 0 < c <;> by_cases h3 : 0 < d <;> simp [h0, h1, h2, h3]
theorem hd_ne {h : List Int} {l : Int} (H : Hd h l) (hl : 0 < l) : heldL h ≠ [] := by
  obtain ⟨a, b, c, d, rfl, ha, hb, hc, hd, hs⟩ := hd_split H
  rw [held4]
  by_cases h0 : 0 < a
  · simp [h0]
  by_cases h1 : 0 < b
  · simp [h1]
  by_cases h2 : 0 < c
  · simp [h2]
  have h3 : 0 < d := by omega
  simp [h3]
theorem setH_hd {h : List Int} {l o m : Int} (H : Hd h l) (mo : o ∈ heldL h) (hm : 0 ≤ m ∧ m ≤ 3) : Hd (setH h o m) l := by
  obtain ⟨m1, m2, m3⟩ := mem_held mo
  obtain ⟨a, b, c, d, rfl, ha, hb, hc, hd, hs⟩ := hd_split H
  unfold setH
  have o4 : o = 0 ∨ o = 1 ∨ o = 2 ∨ o = 3 := by omega
  have mm : m = 0 ∨ m = 1 ∨ m = 2 ∨ m = 3 := by omega
  rcases o4 with rfl | rfl | rfl | rfl <;> rcases mm with rfl | rfl | rfl | rfl <;> simp at m3 ⊢ <;> exact ⟨rfl, by simp; omega, by simp; omega⟩
theorem visH_hd {b : Bool} {h : List Int} {l m : Int} (H : Hd h l) (hp : heldL h ≠ []) (hm : 0 ≤ m ∧ m ≤ 3) : Hd (visH b h m) l := setH_hd H (ldX_mem b hp m) hm
/-- an empty box is met -/
theorem ld0 (a b c d : Int) : ldL [a, b, c, d] 0 = if 0 < d then 3 else if 0 < c then 2 else if 0 < b then 1 else 0 := by
  unfold ldL
  rw [held4]
  by_cases h0 : 0 < a <;> by_cases h1 : 0 < b <;> by_cases h2 : 0 < c <;> by_cases h3 : 0 < d <;> simp [h0, h1, h2, h3]
theorem ldB0 (a b c d : Int) : ldB [a, b, c, d] 0 = if 0 < b then 1 else if 0 < c then 2 else if 0 < d then 3 else 0 := by
  unfold ldB
  rw [held4]
  by_cases h0 : 0 < a <;> by_cases h1 : 0 < b <;> by_cases h2 : 0 < c <;> by_cases h3 : 0 < d <;> simp [h0, h1, h2, h3]
theorem ldX_pos (b : Bool) {h : List Int} {l : Int} (H : Hd h l) (hl : h.getD 0 0 < l) : 0 < ldX b h 0 := by
  obtain ⟨a, b', c, d, rfl, ha, hb, hc, hd, hs⟩ := hd_split H
  have hl : a < l := hl
  cases b
  · show 0 < ldB [a, b', c, d] 0
    rw [ldB0]
    split
    · decide
    split
    · decide
    rw [if_pos (by omega)]
    decide
  · show 0 < ldL [a, b', c, d] 0
    rw [ld0]
    split
    · decide
    split
    · decide
    rw [if_pos (by omega)]
    decide
theorem ldX_full (b : Bool) {h : List Int} {l : Int} (H : Hd h l) (hl : h.getD 0 0 = l) : ldX b h 0 = 0 := by
  obtain ⟨a, b', c, d, rfl, ha, hb, hc, hd, hs⟩ := hd_split H
  have hl : a = l := hl
  cases b
  · show ldB [a, b', c, d] 0 = 0
    rw [ldB0, if_neg (by omega), if_neg (by omega), if_neg (by omega)]
  · show ldL [a, b', c, d] 0 = 0
    rw [ld0, if_neg (by omega), if_neg (by omega), if_neg (by omega)]
theorem set0_h0 {h : List Int} (h4 : h.length = 4) {o : Int} (ho : 1 ≤ o ∧ o ≤ 3) : (setH h o 0).getD 0 0 = h.getD 0 0 + 1 := by
  match h, h4 with
  | [a, b, c, d], _ =>
    unfold setH
    have oo : o = 1 ∨ o = 2 ∨ o = 3 := by omega
    rcases oo with rfl | rfl | rfl <;> rfl
theorem vis0_h0 {b : Bool} {h : List Int} {l : Int} (H : Hd h l) (hl : h.getD 0 0 < l) : (visH b h 0).getD 0 0 = h.getD 0 0 + 1 := by
  have p := ldX_pos b H hl
  have ne : heldL h ≠ [] := by
    obtain ⟨a, b', c, d, rfl, ha, hb, hc, hd, hs⟩ := hd_split H
    have hl : a < l := hl
    rw [held4]
    by_cases h1 : 0 < b'
    · simp [h1]
    by_cases h2 : 0 < c
    · simp [h2]
    have h3 : 0 < d := by omega
    simp [h3]
  have m := mem_held (ldX_mem b ne 0)
  exact set0_h0 H.l4 ⟨by omega, m.2.1⟩
theorem setH_0 {h : List Int} (h4 : h.length = 4) {o : Int} (ho : 0 ≤ o ∧ o ≤ 3) {c : Int} (hc : 1 ≤ c ∧ c ≤ 3) : (setH h o c).getD 0 0 = h.getD 0 0 - (if 0 < o then 0 else 1) := by
  match h, h4 with
  | [a, b, d, e], _ =>
    unfold setH
    have cc : c = 1 ∨ c = 2 ∨ c = 3 := by omega
    have oo : o = 0 ∨ o = 1 ∨ o = 2 ∨ o = 3 := by omega
    rcases cc with rfl | rfl | rfl <;> rcases oo with rfl | rfl | rfl | rfl <;> simp
theorem hd_le {h : List Int} {l : Int} (H : Hd h l) : 0 ≤ h.getD 0 0 ∧ h.getD 0 0 ≤ l := by
  obtain ⟨a, b, c, d, rfl, ha, hb, hc, hd, hs⟩ := hd_split H
  show 0 ≤ a ∧ a ≤ l
  omega
theorem visH_00 {b : Bool} {h : List Int} {l : Int} (H : Hd h l) (hl : 0 < l) {c : Int} (hc : 1 ≤ c ∧ c ≤ 3) : (visH b h c).getD 0 0 = h.getD 0 0 - (if 0 < ldX b h c then 0 else 1) := by
  have m := mem_held (ldX_mem b (hd_ne H hl) c)
  exact setH_0 H.l4 ⟨m.1, m.2.1⟩ hc
theorem visH_0 {b : Bool} {h : List Int} {l : Int} (H : Hd h l) (hl : 0 < l) {c : Int} (hc : 1 ≤ c ∧ c ≤ 3) : h.getD 0 0 - 1 ≤ (visH b h c).getD 0 0 := by
  rw [visH_00 H hl hc]
  split <;> omega
theorem set00 {h : List Int} (h4 : h.length = 4) : setH h 0 0 = h := by
  match h, h4 with
  | [a, b, c, d], _ =>
    show [a - 1 + 1, b, c, d] = [a, b, c, d]
    rw [Int.sub_add_cancel]
theorem vis0_full {b : Bool} {h : List Int} {l : Int} (H : Hd h l) (e : h.getD 0 0 = l) : visH b h 0 = h ∧ h.drop 1 = [0, 0, 0] := by
  unfold visH
  rw [ldX_full b H e]
  refine ⟨set00 H.l4, ?_⟩
  obtain ⟨a, b', c, d, rfl, ha, hb, hc, hd, hs⟩ := hd_split H
  have e : a = l := e
  have e1 : b' = 0 := by omega
  have e2 : c = 0 := by omega
  have e3 : d = 0 := by omega
  rw [e1, e2, e3]
  rfl
end DL
namespace DL
open PySem L2
theorem while_go {fc : Sig → AH → Res Bool} {fb : Sig → AH → Out} {δ δ2 : Sig} {S S1 S2 : AH} (h : fc δ S = .ok true S1) (h2 : fb δ S1 = .nx δ2 S2) : dWhile fc fb δ S = dWhile fc fb δ2 S2 := by
  rw [dWhile_eq, h]
  simp only [out_ok, if_true, h2]
theorem while_end {fc : Sig → AH → Res Bool} {fb : Sig → AH → Out} {δ : Sig} {S S1 : AH} (h : fc δ S = .ok false S1) : dWhile fc fb δ S = .nx δ S1 := by
  rw [dWhile_eq, h]
  simp only [out_ok, Bool.false_eq_true, if_false]
abbrev dv (b : Bool) (R : AH) (s : Option DV) (l x : Int) (pl co : Option DV) : Sig := [s, some (.p (.int l)), some (.p (.int (epD b))), some (.p (.glob (gn b))), some (.c R.length), some (.c (R.length + 1)), some (.p (.int (epD b * x))), some (.c (R.length + 2)), pl, co]
abbrev hf (R : AH) (h : List Int) (found : List PV) : AH := R ++ [.lst (h.map PV.int), .lst found, .fn]
variable (b : Bool) (R : AH) (s pl co : Option DV)
theorem call_vis {h : List Int} {found : List PV} {l m : Int} (x : Int) (H : Hd h l) (hl : 0 < l) (hm : 0 ≤ m ∧ m ≤ 3) (hz : found.length ≤ 900) {fe : Sig → AH → Res DV} (he : ∀ S, fe (dv b R s l x pl co) S = .ok (.p (.int m)) S) :
    dDrop (dCallN [3, 4, 5, 6] d_visited_visit (dCons fe dNil)) (dv b R s l x pl co) (hf R h found) = .nx (dv b R s l x pl co) (hf R (visH b h m) (found ++ [visT b h x m])) := by
  have v := vis_ok b R (h := h) (found := found) (l := m) x H.l4 (hd_ne H hl) hm hz
  have c : dCallN [3, 4, 5, 6] d_visited_visit (dCons fe dNil) (dv b R s l x pl co) (hf R h found) = .ok (.p .non) (hf R (visH b h m) (found ++ [visT b h x m])) := by
    unfold dCallN
    rw [show dCons fe dNil (dv b R s l x pl co) (hf R h found) = .ok [.p (.int m)] (hf R h found) by simp [he]]
    exact v
  unfold dDrop
  rw [c]
  rfl
theorem step_x {l x : Int} (S : AH) : dAug 6 (intO2 fun i j => i + j) (dVar 2) (dv b R s l x pl co) S = .nx (dv b R s l (x + 1) pl co) S := by
  have e : epD b * (x + 1) = epD b * x + epD b := by rw [Int.mul_add, Int.mul_one]
  unfold dv
  rw [e]
  simp
  rfl
theorem turn0 {h : List Int} {found : List PV} {l : Int} (x : Int) (H : Hd h l) (hl : 0 < l) (hz : found.length ≤ 900) : L0_visited (dv b R s l x pl co) (hf R h found) = .nx (dv b R s l (x + 1) pl co) (hf R (visH b h 0) (found ++ [visT b h x 0])) := by
  unfold L0_visited
  refine seq_step (call_vis b R s pl co (m := 0) x H hl (by decide) hz (fun S => by simp)) ?_
  exact step_x b R s pl co _
end DL
namespace DL
open PySem L2
theorem ep_ne (b : Bool) {x p : Int} (h : x ≠ p) : ¬ epD b * x = epD b * p := by
  cases b
  · show ¬ (-1 * x = -1 * p)
    omega
  · show ¬ (1 * x = 1 * p)
    omega
/-- n empty boxes -/
def v0H (b : Bool) : Nat → List Int → List Int
  | 0, h => h
  | n + 1, h => v0H b n (visH b h 0)
def v0T (b : Bool) : Nat → List Int → Int → List PV
  | 0, _, _ => []
  | n + 1, h, x => visT b h x 0 :: v0T b n (visH b h 0) (x + 1)
variable (b : Bool) (R : AH) (s pl co : Option DV)
theorem ix0 {h : List Int} {found : List PV} (h4 : h.length = 4) : ixO (.c R.length) (.p (.int 0)) (hf R h found) = some (.p (.int (h.getD 0 0)), hf R h found) := ix_cell (k := 0) tri_get0 (by omega)
theorem turnL {h : List Int} {found : List PV} {l : Int} (x : Int) (H : Hd h l) (hl : 0 < l) (hz : found.length ≤ 900) : L2_visited (dv b R s l x pl co) (hf R h found) = .nx (dv b R s l (x + 1) pl co) (hf R (visH b h 0) (found ++ [visT b h x 0])) := turn0 b R s pl co x H hl hz
theorem w_end {l : Int} (hl : 0 < l) : ∀ (n : Nat) {h : List Int} {found : List PV} (x : Int), Hd h l → l - h.getD 0 0 = (n : Int) → found.length + n ≤ 900 →
    dWhile (blOf (dBin ltO (dBin ixO (dVar 4) (dC (.int 0))) (dVar 1))) L2_visited (dv b R s l x pl co) (hf R h found) = .nx (dv b R s l (x + (n : Int)) pl co) (hf R (v0H b n h) (found ++ v0T b n h x))
  | 0, h, found, x, H, e, hz => by
    have i0 := ix0 R (found := found) H.l4
    have c : blOf (dBin ltO (dBin ixO (dVar 4) (dC (.int 0))) (dVar 1)) (dv b R s l x pl co) (hf R h found) = .ok false (hf R h found) := by
      have : ¬ h.getD 0 0 < l := by omega
      generalize h.getD 0 0 = w at *
      simp [i0, this]
    rw [while_end c]
    simp [v0H, v0T]
  | n + 1, h, found, x, H, e, hz => by
    have i0 := ix0 R (found := found) H.l4
    have lt : h.getD 0 0 < l := by omega
    have c : blOf (dBin ltO (dBin ixO (dVar 4) (dC (.int 0))) (dVar 1)) (dv b R s l x pl co) (hf R h found) = .ok true (hf R h found) := by
      generalize h.getD 0 0 = w at *
      simp [i0, lt]
    have ne := hd_ne H hl
    have v0 := vis0_h0 (b := b) H lt
    rw [while_go c (turnL b R s pl co x H hl (by omega)), w_end hl n (x + 1) (visH_hd H ne (by decide)) (by rw [v0]; omega) (by simp; omega)]
    have e1 : x + 1 + (n : Int) = x + ((n + 1 : Nat) : Int) := by omega
    rw [e1, List.append_assoc]
    rfl
theorem w_to {l p : Int} (hl : 0 < l) (co : Option DV) : ∀ (n : Nat) {h : List Int} {found : List PV} (x : Int), Hd h l → h.getD 0 0 + (n : Int) ≤ l → (n = 0 ∨ x + (n : Int) ≤ p) → (h.getD 0 0 + (n : Int) = l ∨ x + (n : Int) = p) → found.length + n ≤ 900 →
    dWhile (dAnd (blOf (dBin ltO (dBin ixO (dVar 4) (dC (.int 0))) (dVar 1))) (blOf (dBin neO (dVar 6) (dVar 8)))) L0_visited (dv b R s l x (some (.p (.int (epD b * p)))) co) (hf R h found) = .nx (dv b R s l (x + (n : Int)) (some (.p (.int (epD b * p)))) co) (hf R (v0H b n h) (found ++ v0T b n h x))
  | 0, h, found, x, H, e1, e2, e3, hz => by
    have i0 := ix0 R (found := found) H.l4
    have c : dAnd (blOf (dBin ltO (dBin ixO (dVar 4) (dC (.int 0))) (dVar 1))) (blOf (dBin neO (dVar 6) (dVar 8))) (dv b R s l x (some (.p (.int (epD b * p)))) co) (hf R h found) = .ok false (hf R h found) := by
      by_cases q : h.getD 0 0 < l
      · have e : x = p := by omega
        subst e
        generalize h.getD 0 0 = w at *
        simp [i0, q]
      · generalize h.getD 0 0 = w at *
        simp [i0, q]
    rw [while_end c]
    simp [v0H, v0T]
  | n + 1, h, found, x, H, e1, e2, e3, hz => by
    have i0 := ix0 R (found := found) H.l4
    have lt : h.getD 0 0 < l := by omega
    have ne2 : ¬ epD b * x = epD b * p := ep_ne b (by omega)
    have c : dAnd (blOf (dBin ltO (dBin ixO (dVar 4) (dC (.int 0))) (dVar 1))) (blOf (dBin neO (dVar 6) (dVar 8))) (dv b R s l x (some (.p (.int (epD b * p)))) co) (hf R h found) = .ok true (hf R h found) := by
      generalize h.getD 0 0 = w at *
      simp [i0, lt, ne2]
    have ne := hd_ne H hl
    have v0 := vis0_h0 (b := b) H lt
    rw [while_go c (turn0 b R s (some (.p (.int (epD b * p)))) co x H hl (by omega)), w_to hl co n (x + 1) (visH_hd H ne (by decide)) (by rw [v0]; omega) (by omega) (by rw [v0]; omega) (by simp; omega)]
    have e1 : x + 1 + (n : Int) = x + ((n + 1 : Nat) : Int) := by omega
    rw [e1, List.append_assoc]
    rfl
end DL
namespace DL
open PySem L2
theorem v0H_hd (b : Bool) {l : Int} (hl : 0 < l) : ∀ (n : Nat) {h : List Int}, Hd h l → h.getD 0 0 + (n : Int) ≤ l → Hd (v0H b n h) l ∧ (v0H b n h).getD 0 0 = h.getD 0 0 + (n : Int)
  | 0, h, H, _ => ⟨H, by simp [v0H]⟩
  | n + 1, h, H, e => by
    have lt : h.getD 0 0 < l := by omega
    have v0 := vis0_h0 (b := b) H lt
    obtain ⟨a1, b1⟩ := v0H_hd b hl n (visH_hd H (hd_ne H hl) (m := 0) (by decide)) (by rw [v0]; omega)
    exact ⟨a1, by show (v0H b n (visH b h 0)).getD 0 0 = _; rw [b1, v0]; omega⟩
theorem v0T_len (b : Bool) : ∀ (n : Nat) (h : List Int) (x : Int), (v0T b n h x).length = n
  | 0, _, _ => rfl
  | n + 1, h, x => by
    show (v0T b n (visH b h 0) (x + 1)).length + 1 = n + 1
    rw [v0T_len b n]
/-- the boxes before the next ball -/
def gapN (l : Int) (h : List Int) (x p : Int) : Nat := (min (l - h.getD 0 0) (p - x)).toNat
variable (b : Bool) (R : AH) (s : Option DV)
theorem ball_turn {l : Int} (hl : 0 < l) {h : List Int} {found : List PV} (x p c : Int) (H : Hd h l) (hc : 1 ≤ c ∧ c ≤ 3) (h0 : h.getD 0 0 ≤ l) (hx : h.getD 0 0 = l ∨ x ≤ p) (hz : found.length + gapN l h x p ≤ 899) :
    L1_visited (dv b R s l x (some (.p (.int (epD b * p)))) (some (.p (.int c)))) (hf R h found) = .nx (dv b R s l (p + 1) (some (.p (.int (epD b * p)))) (some (.p (.int c)))) (hf R (visH b (v0H b (gapN l h x p) h) c) (found ++ v0T b (gapN l h x p) h x ++ [visT b (v0H b (gapN l h x p) h) p c])) := by
  have g : gapN l h x p = (min (l - h.getD 0 0) (p - x)).toNat := rfl
  generalize gapN l h x p = n at *
  have w := w_to b R s (p := p) hl (some (.p (.int c))) n (found := found) x H (by omega) (by omega) (by omega) (by omega)
  obtain ⟨H2, _⟩ := v0H_hd b hl n H (by omega)
  unfold L1_visited
  refine seq_step w ?_
  refine seq_step (δ1 := dv b R s l p (some (.p (.int (epD b * p)))) (some (.p (.int c)))) (S1 := hf R (v0H b n h) (found ++ v0T b n h x)) (by simp) ?_
  refine seq_step (call_vis b R s (some (.p (.int (epD b * p)))) (some (.p (.int c))) (m := c) p H2 hl (by omega) (by rw [List.length_append, v0T_len]; omega) (fun S => by simp)) ?_
  exact step_x b R s _ _ _
end DL
namespace DL
open PySem L2
/-! ### all the boxes that a run visits -/
/-- what is seen at one box: the place, the letter, what is held -/
abbrev Sn := Int × Int × List Int
def sT (b : Bool) (e : Sn) : PV := visT b e.2.2 e.1 e.2.1
def v0E (b : Bool) : Nat → List Int → Int → List Sn
  | 0, _, _ => []
  | n + 1, h, x => (x, 0, h) :: v0E b n (visH b h 0) (x + 1)
theorem v0E_T (b : Bool) : ∀ (n : Nat) (h : List Int) (x : Int), (v0E b n h x).map (sT b) = v0T b n h x
  | 0, _, _ => rfl
  | n + 1, h, x => by
    show sT b (x, 0, h) :: (v0E b n (visH b h 0) (x + 1)).map (sT b) = visT b h x 0 :: v0T b n (visH b h 0) (x + 1)
    rw [v0E_T b n]
    rfl
def runE (b : Bool) (l : Int) : List (Int × Int) → List Int → Int → List Sn
  | [], h, x => v0E b (l - h.getD 0 0).toNat h x
  | (p, c) :: bs, h, x => v0E b (gapN l h x p) h x ++ (p, c, v0H b (gapN l h x p) h) :: runE b l bs (visH b (v0H b (gapN l h x p) h) c) (p + 1)
/-- a ball in mirrored places -/
def eV (b : Bool) (q : Int × Int) : PV := bV (epD b * q.1, q.2)
variable (b : Bool) (R : AH) (s : Option DV)
theorem for_balls {l : Int} (hl : 0 < l) : ∀ (bs : List (Int × Int)) {h : List Int} {found : List PV} (x : Int) (k : Nat) (pl co : Option DV), Hd h l → l - h.getD 0 0 ≤ (k : Int) → k + bs.length ≤ 12 → found.length ≤ 13 * k → (h.getD 0 0 = l ∨ ∀ q ∈ bs, x ≤ q.1) → bs.Pairwise (fun p q => p.1 < q.1) → (∀ q ∈ bs, 1 ≤ q.2 ∧ q.2 ≤ 3) →
    ∃ h' x' pl' co' fd', Hd h' l ∧ l - h'.getD 0 0 ≤ 12 ∧ fd'.length ≤ 156 ∧ forGo ckT (.tp [.nm 8, .nm 9]) L1_visited (dit (bs.map (eV b))) (dv b R s l x pl co) (hf R h found) = .nx (dv b R s l x' pl' co') (hf R h' fd') ∧ fd' ++ v0T b (l - h'.getD 0 0).toNat h' x' = found ++ (runE b l bs h x).map (sT b)
  | [], h, found, x, k, pl, co, H, hk, hz, hf, hx, hp, hc => ⟨h, x, pl, co, found, H, by omega, by omega, by simp, by
    show _ = found ++ (v0E b (l - h.getD 0 0).toNat h x).map (sT b)
    rw [v0E_T b]⟩
  | (p, c) :: bs, h, found, x, k, pl, co, H, hk, hz, hfd, hx, hp, hc => by
    have h0 := hd_le H
    have hcc : 1 ≤ c ∧ c ≤ 3 := hc (p, c) (List.mem_cons_self ..)
    have g : gapN l h x p = (min (l - h.getD 0 0) (p - x)).toNat := rfl
    have hz' : k + (bs.length + 1) ≤ 12 := hz
    have hxp : h.getD 0 0 = l ∨ x ≤ p := by
      rcases hx with hx | hx
      · exact .inl hx
      · exact .inr (hx (p, c) (List.mem_cons_self ..))
    have tn := ball_turn b R s hl (found := found) x p c H hcc h0.2 hxp (by omega)
    have gl : h.getD 0 0 + (gapN l h x p : Int) ≤ l := by omega
    obtain ⟨H2, e2⟩ := v0H_hd b hl (gapN l h x p) H gl
    have H3 := visH_hd (b := b) H2 (hd_ne H2 hl) (m := c) ⟨by omega, hcc.2⟩
    have z3 := visH_0 (b := b) H2 hl hcc
    have hp' := List.pairwise_cons.mp hp
    obtain ⟨h', x', pl', co', fd', a1, a2, a3, a4, a5⟩ := for_balls hl bs (found := found ++ v0T b (gapN l h x p) h x ++ [visT b (v0H b (gapN l h x p) h) p c]) (p + 1) (k + 1) (some (.p (.int (epD b * p)))) (some (.p (.int c))) H3 (by omega) (by omega) (by
      rw [List.length_append, List.length_append, v0T_len]
      simp only [List.length_cons, List.length_nil]
      omega) (.inr fun q hq => by have := hp'.1 q hq; simp only at this; omega) hp'.2 (fun q hq => hc q (List.mem_cons_of_mem _ hq))
    refine ⟨h', x', pl', co', fd', a1, a2, a3, ?_, ?_⟩
    · rw [List.map_cons]
      show forGo ckT (.tp [.nm 8, .nm 9]) L1_visited (.p (eV b (p, c)) :: dit (bs.map (eV b))) _ _ = _
      rw [for_cons (δ1 := dv b R s l x (some (.p (.int (epD b * p)))) (some (.p (.int c)))) rfl, tn, after_nx, a4]
    · rw [a5]
      show _ = found ++ (v0E b (gapN l h x p) h x ++ (p, c, v0H b (gapN l h x p) h) :: runE b l bs (visH b (v0H b (gapN l h x p) h) c) (p + 1)).map (sT b)
      rw [List.map_append, v0E_T b, List.map_cons]
      show _ = found ++ (v0T b (gapN l h x p) h x ++ visT b (v0H b (gapN l h x p) h) p c :: _)
      simp
/-- up to twelve balls, at any places -/
structure Sd (s : List (Int × Int)) : Prop where
  l : s.length ≤ 12
  b : ∀ p ∈ s, 1 ≤ p.2 ∧ p.2 ≤ 3
  a : s.Pairwise (fun p q => p.1 < q.1)
def mir (b : Bool) (s : List (Int × Int)) : List (Int × Int) := if b = true then s else (s.map fun p => (-p.1, p.2)).reverse
theorem mir_mir (b : Bool) (s : List (Int × Int)) : mir b (mir b s) = s := by
  cases b
  · show ((((s.map fun p => (-p.1, p.2)).reverse).map fun p => (-p.1, p.2)).reverse) = s
    rw [List.map_reverse, List.reverse_reverse, List.map_map]
    conv => rhs; rw [← List.map_id s]
    refine List.map_congr_left fun p _ => ?_
    show (-(-p.1), p.2) = p
    rw [Int.neg_neg]
  · rfl
theorem mir_sd (b : Bool) {s : List (Int × Int)} (h : Sd s) : Sd (mir b s) := by
  cases b
  · show Sd ((s.map fun p => (-p.1, p.2)).reverse)
    refine ⟨by rw [List.length_reverse, List.length_map]; exact h.l, fun p hp => ?_, ?_⟩
    · obtain ⟨q, hq, rfl⟩ := List.mem_map.mp (List.mem_reverse.mp hp)
      exact h.b q hq
    · rw [List.pairwise_reverse, List.pairwise_map]
      exact h.a.imp fun {p q} z => by simp only; omega
  · exact h
theorem mir_items (b : Bool) (s : List (Int × Int)) : (if b = true then s.map bV else (s.map bV).reverse) = (mir b s).map (eV b) := by
  cases b
  · show (s.map bV).reverse = ((s.map fun p => (-p.1, p.2)).reverse).map (eV false)
    rw [List.map_reverse, List.map_map]
    congr 1
    refine List.map_congr_left fun p _ => ?_
    show bV p = bV (-1 * -p.1, p.2)
    rw [show -1 * -p.1 = p.1 by omega]
  · show s.map bV = s.map (eV true)
    refine List.map_congr_left fun p _ => ?_
    show bV p = bV (1 * p.1, p.2)
    rw [Int.one_mul]
theorem visited_ok (b : Bool) {s : List (Int × Int)} (st : Sd s) {l : Int} (hl : 1 ≤ l) (S : AH) (h0 : S[0]? = some T) : d_visited [.p (sV s), .p (.int l), .p (.int (epD b))] S = .ok (.p (.lst ((runE b l (mir b s) [l, 0, 0, 0] 0).map (sT b)))) S := by
  have H0 : Hd [l, 0, 0, 0] l := ⟨rfl, by simp; omega, by simp⟩
  have sm := mir_sd b st
  obtain ⟨h', x', pl', co', fd', a1, a2, a3, a4, a5⟩ := for_balls b S (some (.p (sV s))) (l := l) (by omega) (mir b s) (found := []) 0 0 none none H0 (by show l - l ≤ _; simp) (by have := sm.l; omega) (by simp) (.inl rfl) sm.a sm.b
  have we := w_end b S (some (.p (sV s))) pl' co' (l := l) (by omega) (l - h'.getD 0 0).toNat (found := fd') x' a1 (by have := hd_le a1; omega) (by omega)
  rw [a5] at we
  refine (dDef_ap rfl).trans ?_
  have gg : (if (0 : Int) < epD b then PV.glob "laid_down" else PV.glob "laid_back") = .glob (gn b) := by cases b <;> rfl
  have body : b_visited_ [some (.p (sV s)), some (.p (.int l)), some (.p (.int (epD b))), none, none, none, none, none, none, none] S = .rt (.c (S.length + 1)) (hf S (v0H b (l - h'.getD 0 0).toNat h') ([] ++ (runE b l (mir b s) [l, 0, 0, 0] 0).map (sT b))) := by
    unfold b_visited_
    refine seq_step (δ1 := [some (.p (sV s)), some (.p (.int l)), some (.p (.int (epD b))), some (.p (.glob (gn b))), none, none, none, none, none, none]) (S1 := S) (by cases b <;> simp [epD, gn]) ?_
    refine seq_step (δ1 := [some (.p (sV s)), some (.p (.int l)), some (.p (.int (epD b))), some (.p (.glob (gn b))), some (.c S.length), none, none, none, none, none]) (S1 := S ++ [.lst [.int l, .int 0, .int 0, .int 0]]) (by simp) ?_
    refine seq_step (δ1 := [some (.p (sV s)), some (.p (.int l)), some (.p (.int (epD b))), some (.p (.glob (gn b))), some (.c S.length), some (.c (S.length + 1)), none, none, none, none]) (S1 := S ++ [.lst [.int l, .int 0, .int 0, .int 0], .lst []]) (by simp) ?_
    refine seq_step (δ1 := [some (.p (sV s)), some (.p (.int l)), some (.p (.int (epD b))), some (.p (.glob (gn b))), some (.c S.length), some (.c (S.length + 1)), some (.p (.int 0)), none, none, none]) (S1 := S ++ [.lst [.int l, .int 0, .int 0, .int 0], .lst []]) (by simp) ?_
    have g0 : (S ++ [Cell.lst [.int l, .int 0, .int 0, .int 0], .lst []])[0]? = some (Cell.tab "visited") := by
      cases S with
      | nil => cases h0
      | cons a S => exact h0
    unfold dNdef
    rw [g0]
    show (if ("visited" : Str) = "visited" ∧ 7 < 10 then _ else _) = _
    rw [if_pos ⟨rfl, by decide⟩]
    have e0 : ([some (.p (sV s)), some (.p (.int l)), some (.p (.int (epD b))), some (.p (.glob (gn b))), some (.c S.length), some (.c (S.length + 1)), some (.p (.int 0)), none, none, none] : Sig).set 7 (some (.c (S ++ [Cell.lst [.int l, .int 0, .int 0, .int 0], .lst []]).length)) = dv b S (some (.p (sV s))) l 0 none none := by
      unfold dv
      rw [List.length_append, Int.mul_zero]
      rfl
    rw [e0, List.append_assoc]
    refine seq_step (δ1 := dv b S (some (.p (sV s))) l x' pl' co') (S1 := hf S h' fd') ?_ ?_
    · rw [ev_for]
      have it : dSeqI (dStep (dVar 0) (dVar 2)) (dv b S (some (.p (sV s))) l 0 none none) (S ++ ([Cell.lst [.int l, .int 0, .int 0, .int 0], .lst []] ++ [.fn])) = .ok (dit ((mir b s).map (eV b)), ckT) (hf S [l, 0, 0, 0] []) := by
        rw [← mir_items]
        cases b <;> simp [dStep, sV, epD]
      rw [it, out_ok, ev_jFor]
      exact a4
    refine seq_step we ?_
    simp
  show gcK S false (b_visited_ [some (.p (sV s)), some (.p (.int l)), some (.p (.int (epD b))), none, none, none, none, none, none, none] S) = _
  rw [body]
  generalize (runE b l (mir b s) [l, 0, 0, 0] 0).map (sT b) = F
  rw [List.nil_append, gc_lst (xs := F) (by simp) (by omega) (by simp)]
  simp
end DL
namespace DL
open PySem L2
/-! ### what a run lays down, both ways (mirrored places) -/
def outs (b : Bool) (es : List Sn) : List (Int × Int) := (es.filter fun e => decide (0 < ldX b e.2.2 e.2.1)).map fun e => (e.1, ldX b e.2.2 e.2.1)
theorem outs_app (b : Bool) (u v : List Sn) : outs b (u ++ v) = outs b u ++ outs b v := by
  unfold outs
  rw [List.filter_append, List.map_append]
theorem outs_cons (b : Bool) (e : Sn) (es : List Sn) : outs b (e :: es) = (if 0 < ldX b e.2.2 e.2.1 then [(e.1, ldX b e.2.2 e.2.1)] else []) ++ outs b es := by
  unfold outs
  by_cases q : 0 < ldX b e.2.2 e.2.1
  · rw [List.filter_cons_of_pos (by simpa using q), if_pos q]
    rfl
  · rw [List.filter_cons_of_neg (by simpa using q), if_neg q]
    rfl
theorem mem_held3 {h : List Int} {a : Int} (m : a ∈ heldL h) : a ≤ 3 := by
  unfold heldL at m
  obtain ⟨k, hk, rfl⟩ := List.mem_map.mp m
  have := List.mem_range.mp (List.mem_filter.mp hk).1
  omega
theorem ld_le3 (b : Bool) (h : List Int) (m : Int) : ldX b h m ≤ 3 := by
  cases b
  · show ldB h m ≤ 3
    unfold ldB
    split
    · rename_i a e
      exact mem_held3 (List.mem_filter.mp (List.mem_of_mem_head? e)).1
    · cases g : (heldL h).head? with
      | none => decide
      | some a => exact mem_held3 (List.mem_of_mem_head? g)
  · show ldL h m ≤ 3
    unfold ldL
    split
    · rename_i a e
      exact mem_held3 (List.mem_filter.mp (List.mem_of_getLast? e)).1
    · cases g : (heldL h).getLast? with
      | none => decide
      | some a => exact mem_held3 (List.mem_of_getLast? g)
theorem len_v0 (b : Bool) {l : Int} (hl : 0 < l) : ∀ (n : Nat) {h : List Int} (y : Int), Hd h l → h.getD 0 0 + (n : Int) ≤ l → (outs b (v0E b n h y)).length = n
  | 0, h, y, H, e => rfl
  | n + 1, h, y, H, e => by
    have lt : h.getD 0 0 < l := by omega
    show (outs b ((y, 0, h) :: v0E b n (visH b h 0) (y + 1))).length = n + 1
    rw [outs_cons]
    simp only
    rw [if_pos (ldX_pos b H lt), List.length_append, len_v0 b hl n (y + 1) (visH_hd H (hd_ne H hl) (m := 0) (by decide)) (by rw [vis0_h0 (b := b) H lt]; omega)]
    simp
    omega
theorem len_run (b : Bool) {l : Int} (hl : 0 < l) : ∀ (bs : List (Int × Int)) {h : List Int} (y : Int), Hd h l → (∀ q ∈ bs, 1 ≤ q.2 ∧ q.2 ≤ 3) → ((outs b (runE b l bs h y)).length : Int) = (bs.length : Int) + (l - h.getD 0 0)
  | [], h, y, H, hb => by
    have := hd_le H
    show ((outs b (v0E b (l - h.getD 0 0).toNat h y)).length : Int) = _
    rw [len_v0 b hl _ y H (by omega), List.length_nil]
    omega
  | (p, c) :: bs, h, y, H, hb => by
    have h0 := hd_le H
    have hc := hb (p, c) (List.mem_cons_self ..)
    simp only at hc
    have g : gapN l h y p = (min (l - h.getD 0 0) (p - y)).toNat := rfl
    have rl : runE b l ((p, c) :: bs) h y = v0E b (gapN l h y p) h y ++ (p, c, v0H b (gapN l h y p) h) :: runE b l bs (visH b (v0H b (gapN l h y p) h) c) (p + 1) := rfl
    rw [rl]
    generalize gapN l h y p = gn at *
    obtain ⟨H2, e2⟩ := v0H_hd b hl gn H (by omega)
    have v := visH_00 (b := b) H2 hl hc
    have ih := len_run b hl bs (p + 1) (visH_hd (b := b) H2 (hd_ne H2 hl) (m := c) ⟨by omega, hc.2⟩) (fun q hq => hb q (List.mem_cons_of_mem _ hq))
    have hz : ((p, c) :: bs).length = bs.length + 1 := rfl
    rw [outs_app, List.length_append, outs_cons, List.length_append, len_v0 b hl gn y H (by omega), hz]
    simp only
    by_cases z : 0 < ldX b (v0H b gn h) c
    · rw [if_pos z] at v ⊢
      simp only [List.length_cons, List.length_nil]
      omega
    · rw [if_neg z] at v ⊢
      simp only [List.length_nil]
      omega
theorem v0E_mem (b : Bool) : ∀ (n : Nat) {h : List Int} {y : Int} {e : Sn}, e ∈ v0E b n h y → y ≤ e.1 ∧ e.1 < y + (n : Int)
  | 0, h, y, e, m => absurd m List.not_mem_nil
  | n + 1, h, y, e, m => by
    rcases List.mem_cons.mp m with rfl | m
    · simp only
      omega
    · have := v0E_mem b n m
      omega
theorem v0E_pw (b : Bool) : ∀ (n : Nat) (h : List Int) (y : Int), (v0E b n h y).Pairwise (fun a b => a.1 < b.1)
  | 0, h, y => List.Pairwise.nil
  | n + 1, h, y => List.pairwise_cons.mpr ⟨fun e m => by have := v0E_mem b n m; simp only; omega, v0E_pw b n _ _⟩
theorem v0E_len (b : Bool) : ∀ (n : Nat) (h : List Int) (y : Int), (v0E b n h y).length = n
  | 0, _, _ => rfl
  | n + 1, h, y => by
    show (v0E b n (visH b h 0) (y + 1)).length + 1 = n + 1
    rw [v0E_len b n]
theorem run_ge (w : Bool) {l b : Int} : ∀ (bs : List (Int × Int)) {h : List Int} {y : Int} {e : Sn}, b ≤ y → (∀ q ∈ bs, b ≤ q.1) → e ∈ runE w l bs h y → b ≤ e.1
  | [], h, y, e, hy, hb, m => by
    have := v0E_mem w _ m
    omega
  | (p, c) :: bs, h, y, e, hy, hb, m => by
    have hp := hb (p, c) (List.mem_cons_self ..)
    simp only at hp
    rcases List.mem_append.mp m with m | m
    · have := v0E_mem w _ m
      omega
    · rcases List.mem_cons.mp m with rfl | m
      · exact hp
      · exact run_ge w bs (by omega) (fun q hq => hb q (List.mem_cons_of_mem _ hq)) m
theorem run_pw (b : Bool) {l : Int} (hl : 0 < l) : ∀ (bs : List (Int × Int)) {h : List Int} {y : Int}, Hd h l → (∀ q ∈ bs, 1 ≤ q.2 ∧ q.2 ≤ 3) → bs.Pairwise (fun p q => p.1 < q.1) → (h.getD 0 0 = l ∨ ∀ q ∈ bs, y ≤ q.1) → (runE b l bs h y).Pairwise (fun a b => a.1 < b.1)
  | [], h, y, H, hb, hp, hy => v0E_pw _ _ _ _
  | (p, c) :: bs, h, y, H, hb, hp, hy => by
    have h0 := hd_le H
    have hc := hb (p, c) (List.mem_cons_self ..)
    simp only at hc
    have hp' := List.pairwise_cons.mp hp
    have g : gapN l h y p = (min (l - h.getD 0 0) (p - y)).toNat := rfl
    have rl : runE b l ((p, c) :: bs) h y = v0E b (gapN l h y p) h y ++ (p, c, v0H b (gapN l h y p) h) :: runE b l bs (visH b (v0H b (gapN l h y p) h) c) (p + 1) := rfl
    rw [rl]
    generalize gapN l h y p = gn at *
    obtain ⟨H2, e2⟩ := v0H_hd b hl gn H (by omega)
    have gp : gn = 0 ∨ y + (gn : Int) ≤ p := by
      rcases hy with hy | hy
      · left; omega
      · have := hy (p, c) (List.mem_cons_self ..)
        simp only at this
        omega
    have nx : ∀ q ∈ bs, p + 1 ≤ q.1 := fun q hq => by have := hp'.1 q hq; simp only at this; omega
    rw [List.pairwise_append]
    refine ⟨v0E_pw _ _ _ _, List.pairwise_cons.mpr ⟨fun e m => ?_, run_pw b hl bs (visH_hd (b := b) H2 (hd_ne H2 hl) (m := c) ⟨by omega, hc.2⟩) (fun q hq => hb q (List.mem_cons_of_mem _ hq)) hp'.2 (.inr nx)⟩, fun x ma z mb => ?_⟩
    · have := run_ge b (b := p + 1) bs (Int.le_refl _) nx m
      simp only
      omega
    · have m1 := v0E_mem b gn ma
      rcases List.mem_cons.mp mb with rfl | mb
      · simp only
        omega
      · have := run_ge b (b := p + 1) bs (Int.le_refl _) nx mb
        omega
theorem runE_len (b : Bool) {l : Int} (hl : 0 < l) : ∀ (bs : List (Int × Int)) {h : List Int} (y : Int) (k : Nat), Hd h l → (∀ q ∈ bs, 1 ≤ q.2 ∧ q.2 ≤ 3) → l - h.getD 0 0 ≤ (k : Int) → k + bs.length ≤ 12 → (runE b l bs h y).length ≤ 12 + 13 * bs.length
  | [], h, y, k, H, hb, hk, hz => by
    show (v0E b (l - h.getD 0 0).toNat h y).length ≤ _
    rw [v0E_len]
    rw [List.length_nil] at hz ⊢
    omega
  | (p, c) :: bs, h, y, k, H, hb, hk, hz => by
    have h0 := hd_le H
    have hc := hb (p, c) (List.mem_cons_self ..)
    simp only at hc
    have hz' : k + (bs.length + 1) ≤ 12 := hz
    have g : gapN l h y p = (min (l - h.getD 0 0) (p - y)).toNat := rfl
    have rl : runE b l ((p, c) :: bs) h y = v0E b (gapN l h y p) h y ++ (p, c, v0H b (gapN l h y p) h) :: runE b l bs (visH b (v0H b (gapN l h y p) h) c) (p + 1) := rfl
    rw [rl]
    generalize gapN l h y p = gn at *
    obtain ⟨H2, e2⟩ := v0H_hd b hl gn H (by omega)
    have z := visH_0 (b := b) H2 hl hc
    have ih := runE_len b hl bs (p + 1) (k + 1) (visH_hd (b := b) H2 (hd_ne H2 hl) (m := c) ⟨by omega, hc.2⟩) (fun q hq => hb q (List.mem_cons_of_mem _ hq)) (by omega) (by omega)
    rw [List.length_append, v0E_len, List.length_cons, List.length_cons]
    omega
theorem run_start (b : Bool) {l p c : Int} {bs : List (Int × Int)} : runE b l ((p, c) :: bs) [l, 0, 0, 0] 0 = (p, c, [l, 0, 0, 0]) :: runE b l bs (visH b [l, 0, 0, 0] c) (p + 1) := by
  have g : gapN l [l, 0, 0, 0] 0 p = 0 := by
    unfold gapN
    show (min (l - l) (p - 0)).toNat = 0
    omega
  have : runE b l ((p, c) :: bs) [l, 0, 0, 0] 0 = v0E b (gapN l [l, 0, 0, 0] 0 p) [l, 0, 0, 0] 0 ++ (p, c, v0H b (gapN l [l, 0, 0, 0] 0 p) [l, 0, 0, 0]) :: runE b l bs (visH b (v0H b (gapN l [l, 0, 0, 0] 0 p) [l, 0, 0, 0]) c) (p + 1) := rfl
  rw [this, g]
  rfl
theorem run_nil (b : Bool) (l : Int) : runE b l [] [l, 0, 0, 0] 0 = [] := by
  show v0E b (l - l).toNat _ _ = []
  rw [show (l - l).toNat = 0 by omega]
  rfl
theorem hd_start {l : Int} (hl : 0 < l) : Hd [l, 0, 0, 0] l := ⟨rfl, by simp; omega, by simp⟩
/-- the boxes of a run -/
def boxE (b : Bool) (l : Int) (s : List (Int × Int)) : List Sn := runE b l (mir b s) [l, 0, 0, 0] 0
/-- the standing behind a run -/
def ranS (b : Bool) (l : Int) (s : List (Int × Int)) : List (Int × Int) := mir b (outs b (boxE b l s))
theorem mir_len (b : Bool) (s : List (Int × Int)) : (mir b s).length = s.length := by
  cases b
  · show ((s.map fun p => (-p.1, p.2)).reverse).length = _
    rw [List.length_reverse, List.length_map]
  · rfl
theorem ran_nil (b : Bool) (l : Int) : ranS b l [] = [] := by
  have : mir b [] = [] := by cases b <;> rfl
  unfold ranS boxE
  rw [this, run_nil]
  exact this
theorem box_len {s : List (Int × Int)} (st : Sd s) (b : Bool) {l : Int} (hl : 0 < l) : (boxE b l s).length ≤ 168 := by
  have sm := mir_sd b st
  have := sm.l
  have := runE_len b hl (mir b s) (h := [l, 0, 0, 0]) 0 0 (hd_start hl) sm.b (by show l - l ≤ _; omega) (by omega)
  unfold boxE
  omega
theorem ran_len {s : List (Int × Int)} (st : Sd s) (b : Bool) {l : Int} (hl : 0 < l) : (ranS b l s).length = s.length := by
  have sm := mir_sd b st
  have := len_run b hl (mir b s) (h := [l, 0, 0, 0]) 0 (hd_start hl) sm.b
  have e : ([l, 0, 0, 0] : List Int).getD 0 0 = l := rfl
  rw [e, mir_len] at this
  unfold ranS boxE
  rw [mir_len]
  omega
theorem outs_sd {s : List (Int × Int)} (st : Sd s) (b : Bool) {l : Int} (hl : 0 < l) : Sd (outs b (boxE b l s)) := by
  have sm := mir_sd b st
  have z := ran_len st b hl
  unfold ranS at z
  rw [mir_len] at z
  refine ⟨by rw [z]; exact st.l, fun q hq => ?_, ?_⟩
  · unfold outs at hq
    obtain ⟨e, he, rfl⟩ := List.mem_map.mp hq
    have e2 : 0 < ldX b e.2.2 e.2.1 := by simpa using (List.mem_filter.mp he).2
    have e3 := ld_le3 b e.2.2 e.2.1
    simp only
    omega
  · have pw := run_pw b hl (mir b s) (h := [l, 0, 0, 0]) (y := 0) (hd_start hl) sm.b sm.a (.inl rfl)
    unfold outs boxE
    rw [List.pairwise_map]
    exact pw.sublist List.filter_sublist
theorem ran_sd {s : List (Int × Int)} (st : Sd s) (b : Bool) {l : Int} (hl : 0 < l) : Sd (ranS b l s) := mir_sd b (outs_sd st b hl)
end DL
namespace DL
open PySem L2
/-! ### the walk of carried, carried_back, energy, load -/
theorem std_sd {s : List (Int × Int)} (h : Std s) : Sd s := ⟨h.l, fun p hp => (h.b p hp).2, h.a⟩
theorem rm_ok {l : Int} (h : 1 ≤ l ∧ l ≤ 1000) (S : AH) : d_check_room [.p (.int l)] S = .ok (.p .non) S := by
  have i := isint_sm (Sm.int l)
  simp [d_check_room, b_check_room_, d_is_room, b_is_room_, i, isI, h.1, h.2]
theorem once_ok {s : List (Int × Int)} (st : Sd s) {l : Int} (hl : 1 ≤ l) (S : AH) (h0 : S[0]? = some T) : d_run_once [.p (sV s), .p (.int l)] S = .ok (.p (sV (ranS true l s))) S := by
  have v := visited_ok true st hl S h0
  have ln := box_len st true (l := l) (by omega)
  have e1 : runE true l (mir true s) [l, 0, 0, 0] 0 = boxE true l s := rfl
  rw [e1] at v
  have v : d_visited [.p (sV s), .p (.int l), .p (.int 1)] S = .ok (.p (.lst ((boxE true l s).map (sT true)))) S := v
  have hz : (dit ((boxE true l s).map (sT true))).length ≤ 16777216 := by rw [dit_len, List.length_map]; omega
  have lc : lcGo ckT (.tp [.nm 2, .nm 3, .nm 4, .nm 3]) (blOf (dBin gtO (dVar 4) (dC (.int 0)))) (dTup (dCons (dVar 2) (dCons (dVar 4) dNil))) [some (.p (sV s)), some (.p (.int l)), none, none, none] (dit ((boxE true l s).map (sT true))) S = .ok ((ranS true l s).map bV) S := by
    rw [lc_filterD (sT true) (fun e => decide (0 < ldX true e.2.2 e.2.1)) (fun e => eV true (e.1, ldX true e.2.2 e.2.1)) _ fun e _ => ⟨_, rfl, by simp, fun _ => by simp [eV, bV]⟩]
    unfold ranS
    have mi := mir_items true (mir true (outs true (boxE true l s)))
    rw [mir_mir, if_pos rfl] at mi
    rw [mi]
    unfold outs
    rw [List.map_map]
    rfl
  generalize boxE true l s = es at *
  generalize ranS true l s = rs at *
  generalize sV s = W at *
  simp [-List.map_map, d_run_once, b_run_once_, v, ev_kLc hz, wipeD, lc]
  rfl
theorem rev_lst {xs : List PV} (S : AH) : revO (.p (.lst xs)) S = some (.p (.lst xs.reverse), S) := rfl
theorem back_ok {s : List (Int × Int)} (st : Sd s) {l : Int} (hl : 1 ≤ l) (S : AH) (h0 : S[0]? = some T) : d_run_back [.p (sV s), .p (.int l)] S = .ok (.p (sV (ranS false l s))) S := by
  have v := visited_ok false st hl S h0
  have ln := box_len st false (l := l) (by omega)
  have e1 : runE false l (mir false s) [l, 0, 0, 0] 0 = boxE false l s := rfl
  rw [e1] at v
  have v : d_visited [.p (sV s), .p (.int l), .p (.int (-1))] S = .ok (.p (.lst ((boxE false l s).map (sT false)))) S := v
  have hz : (dit ((boxE false l s).map (sT false))).length ≤ 16777216 := by rw [dit_len, List.length_map]; omega
  have lc : lcGo ckT (.tp [.nm 2, .nm 3, .nm 4, .nm 3]) (blOf (dBin gtO (dVar 4) (dC (.int 0)))) (dTup (dCons (dVar 2) (dCons (dVar 4) dNil))) [some (.p (sV s)), some (.p (.int l)), none, none, none] (dit ((boxE false l s).map (sT false))) S = .ok (((ranS false l s).map bV).reverse) S := by
    rw [lc_filterD (sT false) (fun e => decide (0 < ldX false e.2.2 e.2.1)) (fun e => eV false (e.1, ldX false e.2.2 e.2.1)) _ fun e _ => ⟨_, rfl, by simp, fun _ => by simp [eV, bV]⟩]
    unfold ranS
    have mi := mir_items false (mir false (outs false (boxE false l s)))
    rw [mir_mir, if_neg (by decide)] at mi
    rw [mi]
    unfold outs
    rw [List.map_map]
    rfl
  have rv := fun S => rev_lst (xs := ((ranS false l s).map bV).reverse) S
  rw [List.reverse_reverse] at rv
  generalize boxE false l s = es at *
  have hs : sV (ranS false l s) = .tup ((ranS false l s).map bV) := rfl
  rw [hs]
  generalize (ranS false l s).map bV = rs at *
  generalize sV s = W at *
  simp [-List.map_map, d_run_back, b_run_back_, v, ev_kLc hz, wipeD, lc, rv]
theorem carried_ok {s : List (Int × Int)} (st : Std s) {l : Int} (hl : 1 ≤ l ∧ l ≤ 1000) (S : AH) (h0 : S[0]? = some T) : d_carried [.p (sV s), .p (.int l)] S = .ok (.p (sV (ranS true l s))) S := by
  have c1 := chk_ok st
  have c2 := rm_ok hl
  have o := once_ok (std_sd st) hl.1 S h0
  generalize sV (ranS true l s) = W2 at *
  generalize sV s = W at *
  simp [d_carried, b_carried_, c1, c2, o]
theorem carriedB_ok {s : List (Int × Int)} (st : Std s) {l : Int} (hl : 1 ≤ l ∧ l ≤ 1000) (S : AH) (h0 : S[0]? = some T) : d_carried_back [.p (sV s), .p (.int l)] S = .ok (.p (sV (ranS false l s))) S := by
  have c1 := chk_ok st
  have c2 := rm_ok hl
  have o := back_ok (std_sd st) hl.1 S h0
  generalize sV (ranS false l s) = W2 at *
  generalize sV s = W at *
  simp [d_carried_back, b_carried_back_, c1, c2, o]
/-- the energy -/
def enE (es : List Sn) : Int := ((es.filter fun e => decide (ldX true e.2.2 e.2.1 < e.2.1)).length : Nat)
def enS (l : Int) (s : List (Int × Int)) : Int := enE (boxE true l s)
theorem en_bd {s : List (Int × Int)} (st : Sd s) {l : Int} (hl : 1 ≤ l) : 0 ≤ enS l s ∧ enS l s ≤ 168 := by
  have ln := box_len st true (l := l) (by omega)
  unfold enS enE
  have : ((boxE true l s).filter fun e => decide (ldX true e.2.2 e.2.1 < e.2.1)).length ≤ (boxE true l s).length := List.length_filter_le ..
  omega
end DL
namespace DL
/-- one place of a flow: the carrier x, the letters m, the flow in, the flow out, what is laid down, what is held then -/
structure Cl (x m i j o x' : Int) : Prop where
  ej : j = m + max (i - x) 0
  eo : o = min i x
  ec : x' = x + m - o
/-- the tetrahedron equation at one place -/
theorem tetra {x y m f1 g1 h1 f0 g0 h0 xt yt p p2 xt1 yt1 : Int} (nx : 0 ≤ x) (ny : 0 ≤ y) (nm : 0 ≤ m) (nf : 0 ≤ f1) (ng : 0 ≤ g1) (nh : 0 ≤ h1)
    (a : Cl y x f1 f0 xt yt) (b : Cl yt m g1 g0 p yt1) (c : Cl xt p h1 h0 p2 xt1) :
    ∃ o x1 y1, Cl x m (g1 + max (h1 - f1) 0) (g0 + max (h0 - f0) 0) o x1 ∧ Cl y o (min h1 f1) (min h0 f0) p2 y1 ∧ Cl y1 x1 (g1 + max (f1 - h1) 0) (g0 + max (f0 - h0) 0) xt1 yt1 := by
  obtain ⟨a1, a2, a3⟩ := a
  obtain ⟨b1, b2, b3⟩ := b
  obtain ⟨c1, c2, c3⟩ := c
  refine ⟨min (g1 + max (h1 - f1) 0) x, x + m - min (g1 + max (h1 - f1) 0) x, y + min (g1 + max (h1 - f1) 0) x - p2, ⟨?_, rfl, rfl⟩, ⟨?_, ?_, rfl⟩, ⟨?_, ?_, ?_⟩⟩ <;> subst a1 a2 a3 b1 b2 b3 c1 c2 c3 <;> lia
end DL
namespace DL
/-- no flow crosses the cut: no letter passes it twice -/
theorem cut01 {x0 x1 x2 x3 y0 y1 y2 y3 f1 f2 f3 a0 a1 a2 a3 b0 b1 b2 b3 m0 m1 m2 m3 g1 g2 g3 p0 p1 p2 p3 h1 h2 h3 : Int}
    (n0 : 0 ≤ x0 ∧ 0 ≤ x1 ∧ 0 ≤ x2 ∧ 0 ≤ x3 ∧ 0 ≤ y0 ∧ 0 ≤ y1 ∧ 0 ≤ y2 ∧ 0 ≤ y3 ∧ 0 ≤ m0 ∧ 0 ≤ m1 ∧ 0 ≤ m2 ∧ 0 ≤ m3) (hs : 1 ≤ x0 + x1 + x2 + x3) (hm : m0 + m1 + m2 + m3 = 1) (gl : g1 ≤ 1 ∧ g2 ≤ 1 ∧ g3 ≤ 1) (hl : h1 ≤ 1 ∧ h2 ≤ 1 ∧ h3 ≤ 1)
    (F3 : f3 = x3) (F2 : f2 = x2 + max (f3 - y2) 0) (F1 : f1 = x1 + max (f2 - y1) 0) (F0 : 0 = x0 + max (f1 - y0) 0)
    (A3 : a3 = 0) (A2 : a2 = min f3 y2) (A1 : a1 = min f2 y1) (A0 : a0 = min f1 y0)
    (B3 : b3 = x3 + y3 - a3) (B2 : b2 = x2 + y2 - a2) (B1 : b1 = x1 + y1 - a1) (B0 : b0 = x0 + y0 - a0)
    (G3 : g3 = m3 + max (1 - b3) 0) (G2 : g2 = m2 + max (g3 - b2) 0) (G1 : g1 = m1 + max (g2 - b1) 0) (G0 : 1 = m0 + max (g1 - b0) 0)
    (P3 : p3 = min 1 b3) (P2 : p2 = min g3 b2) (P1 : p1 = min g2 b1) (P0 : p0 = min g1 b0)
    (H3 : h3 = p3 + max (1 - a3) 0) (H2 : h2 = p2 + max (h3 - a2) 0) (H1 : h1 = p1 + max (h2 - a1) 0) (H0 : 1 = p0 + max (h1 - a0) 0) : False := by
  lia (splits := 40)
/-- one cut where no letter is turned away stays -/
theorem cutC {x0 x1 x2 x3 y0 y1 y2 y3 f0 f1 f2 f3 a0 a1 a2 a3 b0 b1 b2 b3 m0 m1 m2 m3 g0 g1 g2 g3 p0 p1 p2 p3 h0 h1 h2 h3 : Int}
    (n0 : 0 ≤ x0 ∧ 0 ≤ x1 ∧ 0 ≤ x2 ∧ 0 ≤ x3 ∧ 0 ≤ y0 ∧ 0 ≤ y1 ∧ 0 ≤ y2 ∧ 0 ≤ y3 ∧ 0 ≤ m0 ∧ 0 ≤ m1 ∧ 0 ≤ m2 ∧ 0 ≤ m3) (hm : m0 + m1 + m2 + m3 = 1) (gl : (0 ≤ g0 ∧ g0 ≤ 1) ∧ (0 ≤ g1 ∧ g1 ≤ 1) ∧ (0 ≤ g2 ∧ g2 ≤ 1) ∧ (0 ≤ g3 ∧ g3 ≤ 1)) (hl : (0 ≤ h0 ∧ h0 ≤ 1) ∧ (0 ≤ h1 ∧ h1 ≤ 1) ∧ (0 ≤ h2 ∧ h2 ≤ 1) ∧ (0 ≤ h3 ∧ h3 ≤ 1))
    (cc : f0 ≤ y3)
    (F3 : f3 = x3 + max (f0 - y3) 0) (F2 : f2 = x2 + max (f3 - y2) 0) (F1 : f1 = x1 + max (f2 - y1) 0) (F0 : f0 = x0 + max (f1 - y0) 0)
    (A3 : a3 = min f0 y3) (A2 : a2 = min f3 y2) (A1 : a1 = min f2 y1) (A0 : a0 = min f1 y0)
    (B3 : b3 = x3 + y3 - a3) (B2 : b2 = x2 + y2 - a2) (B1 : b1 = x1 + y1 - a1) (B0 : b0 = x0 + y0 - a0)
    (G3 : g3 = m3 + max (g0 - b3) 0) (G2 : g2 = m2 + max (g3 - b2) 0) (G1 : g1 = m1 + max (g2 - b1) 0) (G0 : g0 = m0 + max (g1 - b0) 0)
    (P3 : p3 = min g0 b3) (P2 : p2 = min g3 b2) (P1 : p1 = min g2 b1) (P0 : p0 = min g1 b0)
    (H3 : h3 = p3 + max (h0 - a3) 0) (H2 : h2 = p2 + max (h3 - a2) 0) (H1 : h1 = p1 + max (h2 - a1) 0) (H0 : h0 = p0 + max (h1 - a0) 0) :
    (g0 + max (f0 - h0) 0 ≤ y3 + min (g0 + max (h0 - f0) 0) x3 - min h0 a3) ∨ (g3 + max (f3 - h3) 0 ≤ y2 + min (g3 + max (h3 - f3) 0) x2 - min h3 a2) ∨ (g2 + max (f2 - h2) 0 ≤ y1 + min (g2 + max (h2 - f2) 0) x1 - min h2 a1) ∨ (g1 + max (f1 - h1) 0 ≤ y0 + min (g1 + max (h1 - f1) 0) x0 - min h1 a0) := by
  lia (splits := 60)
end DL
namespace DL
open PySem L2
/-! ### flows around the four letters -/
abbrev Vc := Nat → Int
structure Fw (x m g o c : Vc) : Prop where
  cl : ∀ i, i < 4 → Cl (x i) (m i) (g ((i + 1) % 4)) (g i) (o i) (c i)
  x0 : ∀ i, i < 4 → 0 ≤ x i
  m0 : ∀ i, i < 4 → 0 ≤ m i
  g0 : ∀ i, i < 4 → 0 ≤ g i
theorem Fw.congr {x m g o c x' m' o' c' : Vc} (h : Fw x m g o c) (ex : ∀ i, i < 4 → x' i = x i) (em : ∀ i, i < 4 → m' i = m i) (eo : ∀ i, i < 4 → o' i = o i) (ec : ∀ i, i < 4 → c' i = c i) : Fw x' m' g o' c' :=
  ⟨fun i hi => by rw [ex i hi, em i hi, eo i hi, ec i hi]; exact h.cl i hi, fun i hi => by rw [ex i hi]; exact h.x0 i hi, fun i hi => by rw [em i hi]; exact h.m0 i hi, h.g0⟩
def gA (f g h : Vc) : Vc := fun i => g i + max (h i - f i) 0
def hA (f h : Vc) : Vc := fun i => min (h i) (f i)
def fA (f g h : Vc) : Vc := fun i => g i + max (f i - h i) 0
theorem yb {x y m f a b g p c h q d : Vc} (A : Fw y x f a b) (B : Fw b m g p c) (C : Fw a p h q d) :
    ∃ o x1 y1, Fw x m (gA f g h) o x1 ∧ Fw y o (hA f h) q y1 ∧ Fw y1 x1 (fA f g h) d c := by
  have key : ∀ i, i < 4 → ∃ o x1 y1, Cl (x i) (m i) (gA f g h ((i + 1) % 4)) (gA f g h i) o x1 ∧ Cl (y i) o (hA f h ((i + 1) % 4)) (hA f h i) (q i) y1 ∧ Cl y1 x1 (fA f g h ((i + 1) % 4)) (fA f g h i) (d i) (c i) := fun i hi => by
    have n4 : (i + 1) % 4 < 4 := Nat.mod_lt _ (by decide)
    exact tetra (A.m0 i hi) (A.x0 i hi) (B.m0 i hi) (A.g0 _ n4) (B.g0 _ n4) (C.g0 _ n4) (A.cl i hi) (B.cl i hi) (C.cl i hi)
  have nn : ∀ i, i < 4 → 0 ≤ gA f g h i ∧ 0 ≤ hA f h i ∧ 0 ≤ fA f g h i := fun i hi => by
    have h1 := A.g0 i hi
    have h2 := B.g0 i hi
    have h3 := C.g0 i hi
    unfold gA hA fA
    omega
  let o : Vc := fun i => min (gA f g h ((i + 1) % 4)) (x i)
  let x1 : Vc := fun i => x i + m i - o i
  let y1 : Vc := fun i => y i + o i - q i
  have kk : ∀ i, i < 4 → Cl (x i) (m i) (gA f g h ((i + 1) % 4)) (gA f g h i) (o i) (x1 i) ∧ Cl (y i) (o i) (hA f h ((i + 1) % 4)) (hA f h i) (q i) (y1 i) ∧ Cl (y1 i) (x1 i) (fA f g h ((i + 1) % 4)) (fA f g h i) (d i) (c i) := fun i hi => by
    obtain ⟨o', x1', y1', t1, t2, t3⟩ := key i hi
    have e1 : o' = o i := t1.eo
    subst e1
    have e2 : x1' = x1 i := t1.ec
    subst e2
    have e3 : y1' = y1 i := t2.ec
    subst e3
    exact ⟨t1, t2, t3⟩
  have n4 : ∀ i : Nat, (i + 1) % 4 < 4 := fun i => Nat.mod_lt _ (by decide)
  have no : ∀ i, i < 4 → 0 ≤ o i ∧ 0 ≤ x1 i ∧ 0 ≤ y1 i := fun i hi => by
    obtain ⟨k1, k2, k3⟩ := kk i hi
    have h1 := (nn _ (n4 i)).1
    have h2 := A.m0 i hi
    have h3 := B.m0 i hi
    have h4 := A.x0 i hi
    have h5 := (nn _ (n4 i)).2.1
    have e1 := k1.eo
    have e2 := k1.ec
    have e3 := k2.eo
    have e4 := k2.ec
    omega
  exact ⟨o, x1, y1, ⟨fun i hi => (kk i hi).1, A.m0, B.m0, fun i hi => (nn i hi).1⟩, ⟨fun i hi => (kk i hi).2.1, A.x0, fun i hi => (no i hi).1, fun i hi => (nn i hi).2.1⟩, ⟨fun i hi => (kk i hi).2.2, fun i hi => (no i hi).2.2, fun i hi => (no i hi).2.1, fun i hi => (nn i hi).2.2⟩⟩
theorem i4 {i : Nat} (h : i < 4) : i = 0 ∨ i = 1 ∨ i = 2 ∨ i = 3 := by omega
/-- a letter's flow in the other order passes no place twice -/
theorem gA_1 {x y m f a b g p c h q d : Vc} (A : Fw y x f a b) (B : Fw b m g p c) (C : Fw a p h q d) (hs : 1 ≤ x 0 + x 1 + x 2 + x 3) (hm : m 0 + m 1 + m 2 + m 3 = 1) (g1 : ∀ i, i < 4 → g i ≤ 1) (h1 : ∀ i, i < 4 → h i ≤ 1) : ∀ i, i < 4 → gA f g h i ≤ 1 := by
  have a0 := A.cl 0 (by decide)
  have a1 := A.cl 1 (by decide)
  have a2 := A.cl 2 (by decide)
  have a3 := A.cl 3 (by decide)
  have b0 := B.cl 0 (by decide)
  have b1 := B.cl 1 (by decide)
  have b2 := B.cl 2 (by decide)
  have b3 := B.cl 3 (by decide)
  have c0 := C.cl 0 (by decide)
  have c1 := C.cl 1 (by decide)
  have c2 := C.cl 2 (by decide)
  have c3 := C.cl 3 (by decide)
  simp only [show (0 + 1) % 4 = 1 from rfl, show (1 + 1) % 4 = 2 from rfl, show (2 + 1) % 4 = 3 from rfl, show (3 + 1) % 4 = 0 from rfl] at a0 a1 a2 a3 b0 b1 b2 b3 c0 c1 c2 c3
  have nx := A.m0
  have ny := A.x0
  have nm := B.m0
  have nf := A.g0
  have ng := B.g0
  have nh := C.g0
  have x0 := nx 0 (by decide)
  have x1 := nx 1 (by decide)
  have x2 := nx 2 (by decide)
  have x3 := nx 3 (by decide)
  have y0 := ny 0 (by decide)
  have y1 := ny 1 (by decide)
  have y2 := ny 2 (by decide)
  have y3 := ny 3 (by decide)
  have m0 := nm 0 (by decide)
  have m1 := nm 1 (by decide)
  have m2 := nm 2 (by decide)
  have m3 := nm 3 (by decide)
  have gl0 := g1 0 (by decide)
  have gl1 := g1 1 (by decide)
  have gl2 := g1 2 (by decide)
  have gl3 := g1 3 (by decide)
  have hl0 := h1 0 (by decide)
  have hl1 := h1 1 (by decide)
  have hl2 := h1 2 (by decide)
  have hl3 := h1 3 (by decide)
  intro i hi
  have fi := nf i hi
  have gi := ng i hi
  have hi' := nh i hi
  have gi1 := g1 i hi
  have hi1 := h1 i hi
  unfold gA
  by_cases z : f i = 0 ∧ g i = 1 ∧ h i = 1
  · exfalso
    obtain ⟨z1, z2, z3⟩ := z
    rcases i4 hi with rfl | rfl | rfl | rfl
    · rw [z1] at a0 a3
      rw [z2] at b0 b3
      rw [z3] at c0 c3
      refine cut01 (x0 := x 0) (x1 := x 1) (x2 := x 2) (x3 := x 3) (y0 := y 0) (y1 := y 1) (y2 := y 2) (y3 := y 3) (m0 := m 0) (m1 := m 1) (m2 := m 2) (m3 := m 3) ⟨x0, x1, x2, x3, y0, y1, y2, y3, m0, m1, m2, m3⟩ hs hm ⟨gl1, gl2, gl3⟩ ⟨hl1, hl2, hl3⟩ ?_ a2.ej a1.ej a0.ej ?_ a2.eo a1.eo a0.eo (a3.ec.trans (by omega)) (a2.ec.trans (by omega)) (a1.ec.trans (by omega)) (a0.ec.trans (by omega)) b3.ej b2.ej b1.ej b0.ej b3.eo b2.eo b1.eo b0.eo c3.ej c2.ej c1.ej c0.ej
      · have := a3.ej; omega
      · have := a3.eo; omega
    · rw [z1] at a1 a0
      rw [z2] at b1 b0
      rw [z3] at c1 c0
      refine cut01 (x0 := x 1) (x1 := x 2) (x2 := x 3) (x3 := x 0) (y0 := y 1) (y1 := y 2) (y2 := y 3) (y3 := y 0) (m0 := m 1) (m1 := m 2) (m2 := m 3) (m3 := m 0) ⟨x1, x2, x3, x0, y1, y2, y3, y0, m1, m2, m3, m0⟩ (by omega) (by omega) ⟨gl2, gl3, gl0⟩ ⟨hl2, hl3, hl0⟩ ?_ a3.ej a2.ej a1.ej ?_ a3.eo a2.eo a1.eo (a0.ec.trans (by omega)) (a3.ec.trans (by omega)) (a2.ec.trans (by omega)) (a1.ec.trans (by omega)) b0.ej b3.ej b2.ej b1.ej b0.eo b3.eo b2.eo b1.eo c0.ej c3.ej c2.ej c1.ej
      · have := a0.ej; omega
      · have := a0.eo; omega
    · rw [z1] at a2 a1
      rw [z2] at b2 b1
      rw [z3] at c2 c1
      refine cut01 (x0 := x 2) (x1 := x 3) (x2 := x 0) (x3 := x 1) (y0 := y 2) (y1 := y 3) (y2 := y 0) (y3 := y 1) (m0 := m 2) (m1 := m 3) (m2 := m 0) (m3 := m 1) ⟨x2, x3, x0, x1, y2, y3, y0, y1, m2, m3, m0, m1⟩ (by omega) (by omega) ⟨gl3, gl0, gl1⟩ ⟨hl3, hl0, hl1⟩ ?_ a0.ej a3.ej a2.ej ?_ a0.eo a3.eo a2.eo (a1.ec.trans (by omega)) (a0.ec.trans (by omega)) (a3.ec.trans (by omega)) (a2.ec.trans (by omega)) b1.ej b0.ej b3.ej b2.ej b1.eo b0.eo b3.eo b2.eo c1.ej c0.ej c3.ej c2.ej
      · have := a1.ej; omega
      · have := a1.eo; omega
    · rw [z1] at a3 a2
      rw [z2] at b3 b2
      rw [z3] at c3 c2
      refine cut01 (x0 := x 3) (x1 := x 0) (x2 := x 1) (x3 := x 2) (y0 := y 3) (y1 := y 0) (y2 := y 1) (y3 := y 2) (m0 := m 3) (m1 := m 0) (m2 := m 1) (m3 := m 2) ⟨x3, x0, x1, x2, y3, y0, y1, y2, m3, m0, m1, m2⟩ (by omega) (by omega) ⟨gl0, gl1, gl2⟩ ⟨hl0, hl1, hl2⟩ ?_ a1.ej a0.ej a3.ej ?_ a1.eo a0.eo a3.eo (a2.ec.trans (by omega)) (a1.ec.trans (by omega)) (a0.ec.trans (by omega)) (a3.ec.trans (by omega)) b2.ej b1.ej b0.ej b3.ej b2.eo b1.eo b0.eo b3.eo c2.ej c1.ej c0.ej c3.ej
      · have := a2.ej; omega
      · have := a2.eo; omega
  · omega
end DL
namespace DL
open PySem L2
/-! ### a letter's flow through a carrier -/
def ev (h : List Int) : Vc := fun i => h.getD i 0
def eu (m : Int) : Vc := fun i => if (i : Int) = m then 1 else 0
def arcv (m o : Int) : Vc := fun i => if (m - (i : Int)) % 4 ≤ (m - 1 - o) % 4 then 1 else 0
/-- o is the nearest letter below m that h holds, around the circle -/
def Near (h : List Int) (m o : Int) : Prop := (0 ≤ o ∧ o ≤ 3) ∧ 0 < ev h o.toNat ∧ ∀ i : Nat, i < 4 → (m - 1 - (i : Int)) % 4 < (m - 1 - o) % 4 → ev h i = 0
theorem ld1 (a b c d : Int) : ldL [a, b, c, d] 1 = if 0 < a then 0 else if 0 < d then 3 else if 0 < c then 2 else if 0 < b then 1 else 0 := by
  unfold ldL
  rw [held4]
  by_cases h0 : 0 < a <;> by_cases h1 : 0 < b <;> by_cases h2 : 0 < c <;> by_cases h3 : 0 < d <;> simp [h0, h1, h2, h3]
theorem ld2 (a b c d : Int) : ldL [a, b, c, d] 2 = if 0 < b then 1 else if 0 < a then 0 else if 0 < d then 3 else if 0 < c then 2 else 0 := by
  unfold ldL
  rw [held4]
  by_cases h0 : 0 < a <;> by_cases h1 : 0 < b <;> by_cases h2 : 0 < c <;> by_cases h3 : 0 < d <;> simp [h0, h1, h2, h3]
theorem ld3 (a b c d : Int) : ldL [a, b, c, d] 3 = if 0 < c then 2 else if 0 < b then 1 else if 0 < a then 0 else if 0 < d then 3 else 0 := by
  unfold ldL
  rw [held4]
  by_cases h0 : 0 < a <;> by_cases h1 : 0 < b <;> by_cases h2 : 0 < c <;> by_cases h3 : 0 < d <;> simp [h0, h1, h2, h3]
theorem ev0 (a b c d : Int) : ev [a, b, c, d] 0 = a := rfl
theorem ev1 (a b c d : Int) : ev [a, b, c, d] 1 = b := rfl
theorem ev2 (a b c d : Int) : ev [a, b, c, d] 2 = c := rfl
theorem ev3 (a b c d : Int) : ev [a, b, c, d] 3 = d := rfl
theorem near_ld {h : List Int} {l : Int} (H : Hd h l) (hl : 0 < l) {m : Int} (hm : 0 ≤ m ∧ m ≤ 3) : Near h m (ldL h m) := by
  obtain ⟨a, b, c, d, rfl, ha, hb, hc, hd, hs⟩ := hd_split H
  have mm : m = 0 ∨ m = 1 ∨ m = 2 ∨ m = 3 := by omega
  rcases mm with rfl | rfl | rfl | rfl
  · rw [ld0]
    split
    · exact ⟨by decide, by show 0 < d; omega, fun i hi h => by rcases i4 hi with rfl | rfl | rfl | rfl <;> (exfalso; revert h; decide)⟩
    split
    · exact ⟨by decide, by show 0 < c; omega, fun i hi h => by rcases i4 hi with rfl | rfl | rfl | rfl <;> first | (exfalso; revert h; decide) | (show d = 0; omega)⟩
    split
    · exact ⟨by decide, by show 0 < b; omega, fun i hi h => by rcases i4 hi with rfl | rfl | rfl | rfl <;> first | (exfalso; revert h; decide) | (show d = 0; omega) | (show c = 0; omega)⟩
    · exact ⟨by decide, by show 0 < a; omega, fun i hi h => by rcases i4 hi with rfl | rfl | rfl | rfl <;> first | (exfalso; revert h; decide) | (show d = 0; omega) | (show c = 0; omega) | (show b = 0; omega)⟩
  · rw [ld1]
    split
    · exact ⟨by decide, by show 0 < a; omega, fun i hi h => by rcases i4 hi with rfl | rfl | rfl | rfl <;> (exfalso; revert h; decide)⟩
    split
    · exact ⟨by decide, by show 0 < d; omega, fun i hi h => by rcases i4 hi with rfl | rfl | rfl | rfl <;> first | (exfalso; revert h; decide) | (show a = 0; omega)⟩
    split
    · exact ⟨by decide, by show 0 < c; omega, fun i hi h => by rcases i4 hi with rfl | rfl | rfl | rfl <;> first | (exfalso; revert h; decide) | (show a = 0; omega) | (show d = 0; omega)⟩
    rw [if_pos (by omega)]
    exact ⟨by decide, by show 0 < b; omega, fun i hi h => by rcases i4 hi with rfl | rfl | rfl | rfl <;> first | (exfalso; revert h; decide) | (show a = 0; omega) | (show d = 0; omega) | (show c = 0; omega)⟩
  · rw [ld2]
    split
    · exact ⟨by decide, by show 0 < b; omega, fun i hi h => by rcases i4 hi with rfl | rfl | rfl | rfl <;> (exfalso; revert h; decide)⟩
    split
    · exact ⟨by decide, by show 0 < a; omega, fun i hi h => by rcases i4 hi with rfl | rfl | rfl | rfl <;> first | (exfalso; revert h; decide) | (show b = 0; omega)⟩
    split
    · exact ⟨by decide, by show 0 < d; omega, fun i hi h => by rcases i4 hi with rfl | rfl | rfl | rfl <;> first | (exfalso; revert h; decide) | (show a = 0; omega) | (show b = 0; omega)⟩
    rw [if_pos (by omega)]
    exact ⟨by decide, by show 0 < c; omega, fun i hi h => by rcases i4 hi with rfl | rfl | rfl | rfl <;> first | (exfalso; revert h; decide) | (show a = 0; omega) | (show b = 0; omega) | (show d = 0; omega)⟩
  · rw [ld3]
    split
    · exact ⟨by decide, by show 0 < c; omega, fun i hi h => by rcases i4 hi with rfl | rfl | rfl | rfl <;> (exfalso; revert h; decide)⟩
    split
    · exact ⟨by decide, by show 0 < b; omega, fun i hi h => by rcases i4 hi with rfl | rfl | rfl | rfl <;> first | (exfalso; revert h; decide) | (show c = 0; omega)⟩
    split
    · exact ⟨by decide, by show 0 < a; omega, fun i hi h => by rcases i4 hi with rfl | rfl | rfl | rfl <;> first | (exfalso; revert h; decide) | (show c = 0; omega) | (show b = 0; omega)⟩
    rw [if_pos (by omega)]
    exact ⟨by decide, by show 0 < d; omega, fun i hi h => by rcases i4 hi with rfl | rfl | rfl | rfl <;> first | (exfalso; revert h; decide) | (show a = 0; omega) | (show b = 0; omega) | (show c = 0; omega)⟩
theorem near_uniq {h : List Int} {m o o' : Int} (hm : 0 ≤ m ∧ m ≤ 3) (a : Near h m o) (b : Near h m o') : o = o' := by
  obtain ⟨a1, a2, a3⟩ := a
  obtain ⟨b1, b2, b3⟩ := b
  have h1 : ¬ (m - 1 - o') % 4 < (m - 1 - o) % 4 := fun q => by
    have := a3 o'.toNat (by omega) (by rw [show ((o'.toNat : Nat) : Int) = o' by omega]; exact q)
    omega
  have h2 : ¬ (m - 1 - o) % 4 < (m - 1 - o') % 4 := fun q => by
    have := b3 o.toNat (by omega) (by rw [show ((o.toNat : Nat) : Int) = o by omega]; exact q)
    omega
  omega
/-- the nearest letter's flow -/
theorem near_fw {h : List Int} {l : Int} (H : Hd h l) {m o : Int} (hm : 0 ≤ m ∧ m ≤ 3) (N : Near h m o) : Fw (ev h) (eu m) (arcv m o) (eu o) (ev (setH h o m)) := by
  obtain ⟨a, b, c, d, rfl, ha, hb, hc, hd, hs⟩ := hd_split H
  obtain ⟨n1, n2, n3⟩ := N
  have z0 := n3 0 (by decide)
  have z1 := n3 1 (by decide)
  have z2 := n3 2 (by decide)
  have z3 := n3 3 (by decide)
  rw [ev0] at z0
  rw [ev1] at z1
  rw [ev2] at z2
  rw [ev3] at z3
  clear n3
  refine ⟨fun i hi => ?_, fun i hi => ?_, fun i hi => by unfold eu; split <;> decide, fun i hi => by unfold arcv; split <;> decide⟩
  · have mm : m = 0 ∨ m = 1 ∨ m = 2 ∨ m = 3 := by omega
    have oo : o = 0 ∨ o = 1 ∨ o = 2 ∨ o = 3 := by omega
    rcases mm with rfl | rfl | rfl | rfl <;> rcases oo with rfl | rfl | rfl | rfl <;> simp [ev] at n2 z0 z1 z2 z3 <;> rcases i4 hi with rfl | rfl | rfl | rfl <;> constructor <;> simp [ev, eu, arcv, setH] <;> omega
  · rcases i4 hi with rfl | rfl | rfl | rfl
    · exact ha
    · exact hb
    · exact hc
    · exact hd
end DL
namespace DL
open PySem L2
theorem all4 {P : Nat → Prop} (h0 : P 0) (h1 : P 1) (h2 : P 2) (h3 : P 3) : ∀ i, i < 4 → P i := fun i hi => by
  rcases i4 hi with rfl | rfl | rfl | rfl
  · exact h0
  · exact h1
  · exact h2
  · exact h3
/-- a flow that passes no place twice is the nearest letter's -/
theorem near_g {h : List Int} {l : Int} (H : Hd h l) {m o' : Int} (hm : 0 ≤ m ∧ m ≤ 3) (N : Near h m o') {g o c : Vc} (F : Fw (ev h) (eu m) g o c) (g1 : ∀ i, i < 4 → g i ≤ 1) : ∀ i, i < 4 → g i = arcv m o' i := by
  obtain ⟨a, b, c', d, rfl, ha, hb, hc, hd, hs⟩ := hd_split H
  obtain ⟨n1, n2, n3⟩ := N
  have z0 := n3 0 (by decide)
  have z1 := n3 1 (by decide)
  have z2 := n3 2 (by decide)
  have z3 := n3 3 (by decide)
  rw [ev0] at z0
  rw [ev1] at z1
  rw [ev2] at z2
  rw [ev3] at z3
  clear n3
  have f0 := (F.cl 0 (by decide)).ej
  have f1 := (F.cl 1 (by decide)).ej
  have f2 := (F.cl 2 (by decide)).ej
  have f3 := (F.cl 3 (by decide)).ej
  simp only [show (0 + 1) % 4 = 1 from rfl, show (1 + 1) % 4 = 2 from rfl, show (2 + 1) % 4 = 3 from rfl, show (3 + 1) % 4 = 0 from rfl, ev0, ev1, ev2, ev3] at f0 f1 f2 f3
  have p0 := F.g0 0 (by decide)
  have p1 := F.g0 1 (by decide)
  have p2 := F.g0 2 (by decide)
  have p3 := F.g0 3 (by decide)
  have q0 := g1 0 (by decide)
  have q1 := g1 1 (by decide)
  have q2 := g1 2 (by decide)
  have q3 := g1 3 (by decide)
  have mm : m = 0 ∨ m = 1 ∨ m = 2 ∨ m = 3 := by omega
  have oo : o' = 0 ∨ o' = 1 ∨ o' = 2 ∨ o' = 3 := by omega
  have e0 : ∀ m : Int, eu m 0 = if (0 : Int) = m then 1 else 0 := fun m => rfl
  have e1 : ∀ m : Int, eu m 1 = if (1 : Int) = m then 1 else 0 := fun m => rfl
  have e2 : ∀ m : Int, eu m 2 = if (2 : Int) = m then 1 else 0 := fun m => rfl
  have e3 : ∀ m : Int, eu m 3 = if (3 : Int) = m then 1 else 0 := fun m => rfl
  rw [e0] at f0
  rw [e1] at f1
  rw [e2] at f2
  rw [e3] at f3
  have key : g 0 = arcv m o' 0 ∧ g 1 = arcv m o' 1 ∧ g 2 = arcv m o' 2 ∧ g 3 = arcv m o' 3 := by
    generalize g 0 = g0 at *
    generalize g 1 = g1 at *
    generalize g 2 = g2 at *
    generalize g 3 = g3 at *
    unfold arcv
    rcases mm with rfl | rfl | rfl | rfl <;> rcases oo with rfl | rfl | rfl | rfl <;> simp [ev] at n2 z0 z1 z2 z3 f0 f1 f2 f3 ⊢ <;> omega
  exact all4 key.1 key.2.1 key.2.2.1 key.2.2.2
theorem near_mem {h : List Int} {l : Int} (H : Hd h l) {m o : Int} (N : Near h m o) : o ∈ heldL h := by
  obtain ⟨⟨o1, o2⟩, p, _⟩ := N
  obtain ⟨a, b, c, d, rfl, ha, hb, hc, hd, hs⟩ := hd_split H
  rw [held4]
  have oo : o = 0 ∨ o = 1 ∨ o = 2 ∨ o = 3 := by omega
  simp only [List.mem_append]
  rcases oo with rfl | rfl | rfl | rfl
  · left; have p : 0 < a := p; rw [if_pos p]; simp
  · right; left; have p : 0 < b := p; rw [if_pos p]; simp
  · right; right; left; have p : 0 < c := p; rw [if_pos p]; simp
  · right; right; right; have p : 0 < d := p; rw [if_pos p]; simp
theorem n4 (i : Nat) : (i + 1) % 4 < 4 := Nat.mod_lt _ (by decide)
theorem near_un {h : List Int} {l : Int} (H : Hd h l) {m o' : Int} (hm : 0 ≤ m ∧ m ≤ 3) (N : Near h m o') {g o c : Vc} (F : Fw (ev h) (eu m) g o c) (g1 : ∀ i, i < 4 → g i ≤ 1) : (∀ i, i < 4 → o i = eu o' i) ∧ ∀ i, i < 4 → c i = ev (setH h o' m) i := by
  have k := near_g H hm N F g1
  have B := near_fw H hm N
  have eo : ∀ i, i < 4 → o i = eu o' i := fun i hi => by
    rw [(F.cl i hi).eo, (B.cl i hi).eo, k _ (n4 i)]
  exact ⟨eo, fun i hi => by rw [(F.cl i hi).ec, (B.cl i hi).ec, eo i hi]⟩
theorem eu_inj {o o' : Int} (ho : 0 ≤ o ∧ o ≤ 3) (h : ∀ i, i < 4 → eu o i = eu o' i) : o = o' := by
  have := h o.toNat (by omega)
  unfold eu at this
  rw [if_pos (by omega)] at this
  split at this
  · omega
  · cases this
/-- does the letter m, for which o is laid down, pass the cut between 0 and 3 -/
def wr (m o : Int) : Int := if o < m then 0 else 1
theorem arc_0 {m o : Int} (hm : 0 ≤ m ∧ m ≤ 3) (ho : 0 ≤ o ∧ o ≤ 3) : arcv m o 0 = wr m o := by
  have mm : m = 0 ∨ m = 1 ∨ m = 2 ∨ m = 3 := by omega
  have oo : o = 0 ∨ o = 1 ∨ o = 2 ∨ o = 3 := by omega
  rcases mm with rfl | rfl | rfl | rfl <;> rcases oo with rfl | rfl | rfl | rfl <;> rfl
theorem eu_sum {m : Int} (hm : 0 ≤ m ∧ m ≤ 3) : eu m 0 + eu m 1 + eu m 2 + eu m 3 = 1 := by
  have mm : m = 0 ∨ m = 1 ∨ m = 2 ∨ m = 3 := by omega
  rcases mm with rfl | rfl | rfl | rfl <;> rfl
theorem ev_sum {h : List Int} {l : Int} (H : Hd h l) : ev h 0 + ev h 1 + ev h 2 + ev h 3 = l := by
  obtain ⟨a, b, c, d, rfl, ha, hb, hc, hd, hs⟩ := hd_split H
  exact hs
theorem ld_bd {h : List Int} {l : Int} (H : Hd h l) (hl : 0 < l) (m : Int) : 0 ≤ ldL h m ∧ ldL h m ≤ 3 := by
  have := mem_held (ld_mem (hd_ne H hl) m)
  exact ⟨this.1, this.2.1⟩
/-- one cut where no letter is turned away stays -/
theorem slack {x y m f a b g p c h q d o x1 y1 : Vc} (A : Fw y x f a b) (B : Fw b m g p c) (C : Fw a p h q d) (hm : m 0 + m 1 + m 2 + m 3 = 1) (g1 : ∀ i, i < 4 → g i ≤ 1) (h1 : ∀ i, i < 4 → h i ≤ 1)
    (A2 : Fw x m (gA f g h) o x1) (B2 : Fw y o (hA f h) q y1) (s : ∃ i, i < 4 ∧ f ((i + 1) % 4) ≤ y i) : ∃ i, i < 4 ∧ fA f g h ((i + 1) % 4) ≤ y1 i := by
  have a0 := A.cl 0 (by decide)
  have a1 := A.cl 1 (by decide)
  have a2 := A.cl 2 (by decide)
  have a3 := A.cl 3 (by decide)
  have b0 := B.cl 0 (by decide)
  have b1 := B.cl 1 (by decide)
  have b2 := B.cl 2 (by decide)
  have b3 := B.cl 3 (by decide)
  have c0 := C.cl 0 (by decide)
  have c1 := C.cl 1 (by decide)
  have c2 := C.cl 2 (by decide)
  have c3 := C.cl 3 (by decide)
  have d0 := (A2.cl 0 (by decide)).eo
  have d1 := (A2.cl 1 (by decide)).eo
  have d2 := (A2.cl 2 (by decide)).eo
  have d3 := (A2.cl 3 (by decide)).eo
  have e0 := (B2.cl 0 (by decide)).ec
  have e1 := (B2.cl 1 (by decide)).ec
  have e2 := (B2.cl 2 (by decide)).ec
  have e3 := (B2.cl 3 (by decide)).ec
  simp only [show (0 + 1) % 4 = 1 from rfl, show (1 + 1) % 4 = 2 from rfl, show (2 + 1) % 4 = 3 from rfl, show (3 + 1) % 4 = 0 from rfl] at a0 a1 a2 a3 b0 b1 b2 b3 c0 c1 c2 c3 d0 d1 d2 d3
  rw [d0, c0.eo] at e0
  rw [d1, c1.eo] at e1
  rw [d2, c2.eo] at e2
  rw [d3, c3.eo] at e3
  unfold gA at e0 e1 e2 e3
  have x0 := A.m0 0 (by decide)
  have x1' := A.m0 1 (by decide)
  have x2 := A.m0 2 (by decide)
  have x3 := A.m0 3 (by decide)
  have y0 := A.x0 0 (by decide)
  have y1' := A.x0 1 (by decide)
  have y2 := A.x0 2 (by decide)
  have y3 := A.x0 3 (by decide)
  have m0 := B.m0 0 (by decide)
  have m1 := B.m0 1 (by decide)
  have m2 := B.m0 2 (by decide)
  have m3 := B.m0 3 (by decide)
  have gl0 := And.intro (B.g0 0 (by decide)) (g1 0 (by decide))
  have gl1 := And.intro (B.g0 1 (by decide)) (g1 1 (by decide))
  have gl2 := And.intro (B.g0 2 (by decide)) (g1 2 (by decide))
  have gl3 := And.intro (B.g0 3 (by decide)) (g1 3 (by decide))
  have hl0 := And.intro (C.g0 0 (by decide)) (h1 0 (by decide))
  have hl1 := And.intro (C.g0 1 (by decide)) (h1 1 (by decide))
  have hl2 := And.intro (C.g0 2 (by decide)) (h1 2 (by decide))
  have hl3 := And.intro (C.g0 3 (by decide)) (h1 3 (by decide))
  have fin : ∀ i : Nat, i < 4 → ∀ j : Nat, j = (i + 1) % 4 → fA f g h j ≤ y1 i → ∃ i, i < 4 ∧ fA f g h ((i + 1) % 4) ≤ y1 i := fun i hi j hj le => ⟨i, hi, by rw [← hj]; exact le⟩
  obtain ⟨i, hi, s⟩ := s
  rcases i4 hi with rfl | rfl | rfl | rfl
  · have s : f 1 ≤ y 0 := s
    rcases cutC (x0 := x 1) (x1 := x 2) (x2 := x 3) (x3 := x 0) (y0 := y 1) (y1 := y 2) (y2 := y 3) (y3 := y 0) ⟨x1', x2, x3, x0, y1', y2, y3, y0, m1, m2, m3, m0⟩ (by omega) ⟨gl1, gl2, gl3, gl0⟩ ⟨hl1, hl2, hl3, hl0⟩ s a0.ej a3.ej a2.ej a1.ej a0.eo a3.eo a2.eo a1.eo (a0.ec.trans (by omega)) (a3.ec.trans (by omega)) (a2.ec.trans (by omega)) (a1.ec.trans (by omega)) b0.ej b3.ej b2.ej b1.ej b0.eo b3.eo b2.eo b1.eo c0.ej c3.ej c2.ej c1.ej with r | r | r | r
    · exact fin 0 (by decide) 1 rfl (by rw [e0]; exact r)
    · exact fin 3 (by decide) 0 rfl (by rw [e3]; exact r)
    · exact fin 2 (by decide) 3 rfl (by rw [e2]; exact r)
    · exact fin 1 (by decide) 2 rfl (by rw [e1]; exact r)
  · have s : f 2 ≤ y 1 := s
    rcases cutC (x0 := x 2) (x1 := x 3) (x2 := x 0) (x3 := x 1) (y0 := y 2) (y1 := y 3) (y2 := y 0) (y3 := y 1) ⟨x2, x3, x0, x1', y2, y3, y0, y1', m2, m3, m0, m1⟩ (by omega) ⟨gl2, gl3, gl0, gl1⟩ ⟨hl2, hl3, hl0, hl1⟩ s a1.ej a0.ej a3.ej a2.ej a1.eo a0.eo a3.eo a2.eo (a1.ec.trans (by omega)) (a0.ec.trans (by omega)) (a3.ec.trans (by omega)) (a2.ec.trans (by omega)) b1.ej b0.ej b3.ej b2.ej b1.eo b0.eo b3.eo b2.eo c1.ej c0.ej c3.ej c2.ej with r | r | r | r
    · exact fin 1 (by decide) 2 rfl (by rw [e1]; exact r)
    · exact fin 0 (by decide) 1 rfl (by rw [e0]; exact r)
    · exact fin 3 (by decide) 0 rfl (by rw [e3]; exact r)
    · exact fin 2 (by decide) 3 rfl (by rw [e2]; exact r)
  · have s : f 3 ≤ y 2 := s
    rcases cutC (x0 := x 3) (x1 := x 0) (x2 := x 1) (x3 := x 2) (y0 := y 3) (y1 := y 0) (y2 := y 1) (y3 := y 2) ⟨x3, x0, x1', x2, y3, y0, y1', y2, m3, m0, m1, m2⟩ (by omega) ⟨gl3, gl0, gl1, gl2⟩ ⟨hl3, hl0, hl1, hl2⟩ s a2.ej a1.ej a0.ej a3.ej a2.eo a1.eo a0.eo a3.eo (a2.ec.trans (by omega)) (a1.ec.trans (by omega)) (a0.ec.trans (by omega)) (a3.ec.trans (by omega)) b2.ej b1.ej b0.ej b3.ej b2.eo b1.eo b0.eo b3.eo c2.ej c1.ej c0.ej c3.ej with r | r | r | r
    · exact fin 2 (by decide) 3 rfl (by rw [e2]; exact r)
    · exact fin 1 (by decide) 2 rfl (by rw [e1]; exact r)
    · exact fin 0 (by decide) 1 rfl (by rw [e0]; exact r)
    · exact fin 3 (by decide) 0 rfl (by rw [e3]; exact r)
  · have s : f 0 ≤ y 3 := s
    rcases cutC (x0 := x 0) (x1 := x 1) (x2 := x 2) (x3 := x 3) (y0 := y 0) (y1 := y 1) (y2 := y 2) (y3 := y 3) ⟨x0, x1', x2, x3, y0, y1', y2, y3, m0, m1, m2, m3⟩ (by omega) ⟨gl0, gl1, gl2, gl3⟩ ⟨hl0, hl1, hl2, hl3⟩ s a3.ej a2.ej a1.ej a0.ej a3.eo a2.eo a1.eo a0.eo (a3.ec.trans (by omega)) (a2.ec.trans (by omega)) (a1.ec.trans (by omega)) (a0.ec.trans (by omega)) b3.ej b2.ej b1.ej b0.ej b3.eo b2.eo b1.eo b0.eo c3.ej c2.ej c1.ej c0.ej with r | r | r | r
    · exact fin 3 (by decide) 0 rfl (by rw [e3]; exact r)
    · exact fin 2 (by decide) 3 rfl (by rw [e2]; exact r)
    · exact fin 1 (by decide) 2 rfl (by rw [e1]; exact r)
    · exact fin 0 (by decide) 1 rfl (by rw [e0]; exact r)
/-! ### two carriers in both orders -/
structure Inv (l k : Int) (hx hy ht hu : List Int) (f : Vc) : Prop where
  X : Hd hx l
  Y : Hd hy k
  T : Hd ht l
  U : Hd hu k
  F : Fw (ev hy) (ev hx) f (ev ht) (ev hu)
  C : ∃ i, i < 4 ∧ f ((i + 1) % 4) ≤ ev hy i
  l0 : 0 < l
  k0 : 0 < k
theorem eu_ge {m : Int} : ∀ i, i < 4 → 0 ≤ eu m i := fun i _ => by unfold eu; split <;> decide
theorem arc_le {m o : Int} : ∀ i, i < 4 → arcv m o i ≤ 1 := fun i _ => by unfold arcv; split <;> decide
theorem inv_step {l k : Int} {hx hy ht hu : List Int} {f : Vc} (I : Inv l k hx hy ht hu f) {m : Int} (hm : 0 ≤ m ∧ m ≤ 3) :
    ldL hy (ldL hx m) = ldL ht (ldL hu m) ∧ ∃ f', Inv l k (setH hx (ldL hx m) m) (setH hy (ldL hy (ldL hx m)) (ldL hx m)) (setH ht (ldL ht (ldL hu m)) (ldL hu m)) (setH hu (ldL hu m) m) f' ∧
      f' 0 = f 0 + wr m (ldL hx m) - wr (ldL hu m) (ldL ht (ldL hu m)) ∧ f' 0 = f 0 + wr m (ldL hu m) - wr (ldL hx m) (ldL hy (ldL hx m)) := by
  have pb := ld_bd I.U I.k0 m
  have ob := ld_bd I.X I.l0 m
  have qb := ld_bd I.T I.l0 (ldL hu m)
  have o2b := ld_bd I.Y I.k0 (ldL hx m)
  have NU := near_ld I.U I.k0 hm
  have NX := near_ld I.X I.l0 hm
  have NT := near_ld I.T I.l0 pb
  have NY := near_ld I.Y I.k0 ob
  generalize ldL hu m = p at *
  generalize ldL hx m = o at *
  generalize ldL ht p = q at *
  generalize ldL hy o = o2 at *
  have B := near_fw I.U hm NU
  have C := near_fw I.T pb NT
  obtain ⟨o', x1, y1, A2, B2, C2⟩ := yb I.F B C
  have gl := gA_1 I.F B C (by rw [ev_sum I.X]; have := I.l0; omega) (eu_sum hm) arc_le arc_le
  have hl : ∀ i, i < 4 → hA f (arcv p q) i ≤ 1 := fun i hi => by
    have := arc_le (m := p) (o := q) i hi
    unfold hA
    omega
  have sl := slack I.F B C (eu_sum hm) arc_le arc_le A2 B2 I.C
  have gx := near_g I.X hm NX A2 gl
  obtain ⟨eo, ex⟩ := near_un I.X hm NX A2 gl
  have B3 : Fw (ev hy) (eu o) (hA f (arcv p q)) (eu q) y1 := B2.congr (fun i hi => rfl) (fun i hi => (eo i hi).symm) (fun i hi => rfl) (fun i hi => rfl)
  have gy := near_g I.Y ob NY B3 hl
  obtain ⟨eq, ey⟩ := near_un I.Y ob NY B3 hl
  have e12 : q = o2 := eu_inj qb eq
  subst e12
  have f0 := I.F.g0 0 (by decide)
  have w1 := gx 0 (by decide)
  have w2 := gy 0 (by decide)
  rw [arc_0 hm ob] at w1
  rw [arc_0 ob qb] at w2
  have w3 := arc_0 hm pb
  have w4 := arc_0 pb qb
  unfold gA at w1
  unfold hA at w2
  rw [w3, w4] at w1
  rw [w4] at w2
  refine ⟨rfl, fA f (arcv m p) (arcv p q), ⟨setH_hd I.X ?_ hm, setH_hd I.Y ?_ ob, setH_hd I.T ?_ pb, setH_hd I.U ?_ hm, C2.congr (fun i hi => (ey i hi).symm) (fun i hi => (ex i hi).symm) (fun i hi => rfl) (fun i hi => rfl), ?_, I.l0, I.k0⟩, ?_, ?_⟩
  · exact near_mem I.X NX
  · exact near_mem I.Y NY
  · exact near_mem I.T NT
  · exact near_mem I.U NU
  · obtain ⟨i, hi, s⟩ := sl
    exact ⟨i, hi, by rw [← ey i hi]; exact s⟩
  · unfold fA
    rw [w3, w4]
    omega
  · unfold fA
    rw [w3, w4]
    omega
end DL
namespace DL
open PySem L2
/-! ### words through a carrier -/
def wO : List Int → List Int → List Int
  | _, [] => []
  | h, m :: w => ldL h m :: wO (setH h (ldL h m) m) w
def wH : List Int → List Int → List Int
  | h, [] => h
  | h, m :: w => wH (setH h (ldL h m) m) w
/-- how many letters are laid down that are less than those taken up -/
def wE : List Int → List Int → Int
  | _, [] => 0
  | h, m :: w => (1 - wr m (ldL h m)) + wE (setH h (ldL h m) m) w
def L4 (w : List Int) : Prop := ∀ m ∈ w, 0 ≤ m ∧ m ≤ 3
theorem wO_len : ∀ (h w : List Int), (wO h w).length = w.length
  | _, [] => rfl
  | h, m :: w => by
    show (wO _ w).length + 1 = w.length + 1
    rw [wO_len]
theorem comm : ∀ (w : List Int) {l k : Int} {hx hy ht hu : List Int} {f : Vc}, Inv l k hx hy ht hu f → L4 w →
    wO hy (wO hx w) = wO ht (wO hu w) ∧ ∃ f', Inv l k (wH hx w) (wH hy (wO hx w)) (wH ht (wO hu w)) (wH hu w) f' ∧
      f' 0 = f 0 - wE hx w + wE ht (wO hu w) ∧ f' 0 = f 0 - wE hu w + wE hy (wO hx w)
  | [], l, k, hx, hy, ht, hu, f, I, hw => ⟨rfl, f, I, by show f 0 = f 0 - 0 + 0; omega, by show f 0 = f 0 - 0 + 0; omega⟩
  | m :: w, l, k, hx, hy, ht, hu, f, I, hw => by
    obtain ⟨e, f1, I1, a1, a2⟩ := inv_step I (hw m List.mem_cons_self)
    obtain ⟨e2, f2, I2, b1, b2⟩ := comm w I1 (fun x hx => hw x (List.mem_cons_of_mem _ hx))
    refine ⟨?_, f2, I2, ?_, ?_⟩
    · show ldL hy (ldL hx m) :: _ = ldL ht (ldL hu m) :: _
      exact congr (congrArg List.cons e) e2
    · show f2 0 = f 0 - ((1 - wr m (ldL hx m)) + wE (setH hx (ldL hx m) m) w) + ((1 - wr (ldL hu m) (ldL ht (ldL hu m))) + wE (setH ht (ldL ht (ldL hu m)) (ldL hu m)) (wO (setH hu (ldL hu m) m) w))
      omega
    · show f2 0 = f 0 - ((1 - wr m (ldL hu m)) + wE (setH hu (ldL hu m) m) w) + ((1 - wr (ldL hx m) (ldL hy (ldL hx m))) + wE (setH hy (ldL hy (ldL hx m)) (ldL hx m)) (wO (setH hx (ldL hx m) m) w))
      omega
theorem inv_start {l k : Int} (hl : 0 < l) (hk : l ≤ k) : Inv l k [l, 0, 0, 0] [k, 0, 0, 0] [l, 0, 0, 0] [k, 0, 0, 0] (fun _ => l) := by
  refine ⟨hd_start hl, hd_start (by omega), hd_start hl, hd_start (by omega), ⟨all4 ⟨?_, ?_, ?_⟩ ⟨?_, ?_, ?_⟩ ⟨?_, ?_, ?_⟩ ⟨?_, ?_, ?_⟩, all4 ?_ ?_ ?_ ?_, all4 ?_ ?_ ?_ ?_, fun i hi => by show 0 ≤ l; omega⟩, ⟨0, by decide, hk⟩, hl, by omega⟩ <;> simp [ev] <;> omega
theorem inv_end {l k : Int} {ht hu : List Int} {f : Vc} (I : Inv l k [l, 0, 0, 0] [k, 0, 0, 0] ht hu f) : f 0 = l := by
  have c0 := (I.F.cl 0 (by decide)).ej
  have c1 := (I.F.cl 1 (by decide)).ej
  have c2 := (I.F.cl 2 (by decide)).ej
  have c3 := (I.F.cl 3 (by decide)).ej
  simp only [show (0 + 1) % 4 = 1 from rfl, show (1 + 1) % 4 = 2 from rfl, show (2 + 1) % 4 = 3 from rfl, show (3 + 1) % 4 = 0 from rfl, ev0, ev1, ev2, ev3] at c0 c1 c2 c3
  have g0 := I.F.g0 0 (by decide)
  have g1 := I.F.g0 1 (by decide)
  have g2 := I.F.g0 2 (by decide)
  have g3 := I.F.g0 3 (by decide)
  have l0 := I.l0
  obtain ⟨i, hi, s⟩ := I.C
  rcases i4 hi with rfl | rfl | rfl | rfl
  · have s : f 1 ≤ k := s
    omega
  · have s : f 2 ≤ 0 := s
    omega
  · have s : f 3 ≤ 0 := s
    omega
  · have s : f 0 ≤ 0 := s
    omega
/-- two carriers in both orders, from nothing to nothing -/
theorem comm_word {l k : Int} (hl : 0 < l) (hk : l ≤ k) {w : List Int} (hw : L4 w) (e1 : wH [l, 0, 0, 0] w = [l, 0, 0, 0]) (e2 : wH [k, 0, 0, 0] (wO [l, 0, 0, 0] w) = [k, 0, 0, 0]) :
    wO [k, 0, 0, 0] (wO [l, 0, 0, 0] w) = wO [l, 0, 0, 0] (wO [k, 0, 0, 0] w) ∧ wE [l, 0, 0, 0] (wO [k, 0, 0, 0] w) = wE [l, 0, 0, 0] w ∧ wE [k, 0, 0, 0] (wO [l, 0, 0, 0] w) = wE [k, 0, 0, 0] w := by
  obtain ⟨a, f', I, b, c⟩ := comm w (inv_start hl hk) hw
  rw [e1, e2] at I
  have z := inv_end I
  exact ⟨a, by omega, by omega⟩
end DL
namespace DL
open PySem L2
/-! ### runs as words over a window -/
def wn (s : List (Int × Int)) : Int → Nat → List Int
  | _, 0 => []
  | a, n + 1 => letAt s a :: wn s (a + 1) n
def wX (b : Bool) : List Int → List Int → List Int
  | _, [] => []
  | h, m :: w => ldX b h m :: wX b (visH b h m) w
def wHX (b : Bool) : List Int → List Int → List Int
  | h, [] => h
  | h, m :: w => wHX b (visH b h m) w
theorem wX_true : ∀ (h w : List Int), wX true h w = wO h w
  | _, [] => rfl
  | h, m :: w => by
    show ldL h m :: wX true (setH h (ldL h m) m) w = ldL h m :: wO (setH h (ldL h m) m) w
    rw [wX_true]
theorem wHX_true : ∀ (h w : List Int), wHX true h w = wH h w
  | _, [] => rfl
  | h, m :: w => wHX_true (setH h (ldL h m) m) w
theorem let_cons (p : Int × Int) (s : List (Int × Int)) (x : Int) : letAt (p :: s) x = if p.1 = x then p.2 else letAt s x := by
  unfold letAt
  rw [List.find?_cons]
  by_cases q : p.1 = x <;> simp [q]
theorem wn_congr {s t : List (Int × Int)} : ∀ (n : Nat) (a : Int), (∀ x, a ≤ x → letAt s x = letAt t x) → wn s a n = wn t a n
  | 0, a, h => rfl
  | n + 1, a, h => by
    show letAt s a :: wn s (a + 1) n = letAt t a :: wn t (a + 1) n
    rw [h a (Int.le_refl _), wn_congr n (a + 1) fun x hx => h x (by omega)]
/-- balls from y on -/
structure Bal (bs : List (Int × Int)) (y : Int) : Prop where
  a : bs.Pairwise (fun p q => p.1 < q.1)
  c : ∀ q ∈ bs, 1 ≤ q.2 ∧ q.2 ≤ 3
  y : ∀ q ∈ bs, y ≤ q.1
theorem run_box (b : Bool) {l : Int} (hl : 0 < l) {bs : List (Int × Int)} {h : List Int} (H : Hd h l) {y : Int} (B : Bal bs y) :
    ∃ bs', Bal bs' (y + 1) ∧ (∀ x, y + 1 ≤ x → letAt bs' x = letAt bs x) ∧ (∀ q ∈ bs', q ∈ bs) ∧ (0 ≤ letAt bs y ∧ letAt bs y ≤ 3) ∧
      (runE b l bs h y = (y, letAt bs y, h) :: runE b l bs' (visH b h (letAt bs y)) (y + 1) ∨ (letAt bs y = 0 ∧ h.getD 0 0 = l ∧ runE b l bs h y = runE b l bs' (visH b h (letAt bs y)) (y + 1))) := by
  have h0 := hd_le H
  have none_ : (∀ q ∈ bs, y + 1 ≤ q.1) → ∃ bs', Bal bs' (y + 1) ∧ (∀ x, y + 1 ≤ x → letAt bs' x = letAt bs x) ∧ (∀ q ∈ bs', q ∈ bs) ∧ (0 ≤ letAt bs y ∧ letAt bs y ≤ 3) ∧
      (runE b l bs h y = (y, letAt bs y, h) :: runE b l bs' (visH b h (letAt bs y)) (y + 1) ∨ (letAt bs y = 0 ∧ h.getD 0 0 = l ∧ runE b l bs h y = runE b l bs' (visH b h (letAt bs y)) (y + 1))) := fun hy => by
    have e0 : letAt bs y = 0 := let_none fun p hp => by have := hy p hp; omega
    refine ⟨bs, ⟨B.a, B.c, hy⟩, fun x _ => rfl, fun q hq => hq, by rw [e0]; decide, ?_⟩
    rw [e0]
    by_cases z : h.getD 0 0 < l
    · left
      have v := vis0_h0 (b := b) H z
      cases bs with
      | nil =>
        show v0E b (l - h.getD 0 0).toNat h y = (y, 0, h) :: v0E b (l - (visH b h 0).getD 0 0).toNat (visH b h 0) (y + 1)
        rw [v, show (l - h.getD 0 0).toNat = (l - (h.getD 0 0 + 1)).toNat + 1 by omega]
        rfl
      | cons q bs =>
        obtain ⟨p, c⟩ := q
        have hp := hy (p, c) List.mem_cons_self
        simp only at hp
        have g1 : gapN l h y p = gapN l (visH b h 0) (y + 1) p + 1 := by
          unfold gapN
          rw [v]
          omega
        have r1 : runE b l ((p, c) :: bs) h y = v0E b (gapN l h y p) h y ++ (p, c, v0H b (gapN l h y p) h) :: runE b l bs (visH b (v0H b (gapN l h y p) h) c) (p + 1) := rfl
        rw [r1, g1]
        rfl
    · right
      have e : h.getD 0 0 = l := by omega
      refine ⟨rfl, e, ?_⟩
      rw [(vis0_full (b := b) H e).1]
      cases bs with
      | nil =>
        show v0E b (l - h.getD 0 0).toNat h y = v0E b (l - h.getD 0 0).toNat h (y + 1)
        rw [show (l - h.getD 0 0).toNat = 0 by omega]
        rfl
      | cons q bs =>
        obtain ⟨p, c⟩ := q
        have g1 : gapN l h y p = 0 := by unfold gapN; omega
        have g2 : gapN l h (y + 1) p = 0 := by unfold gapN; omega
        have r1 : runE b l ((p, c) :: bs) h y = v0E b (gapN l h y p) h y ++ (p, c, v0H b (gapN l h y p) h) :: runE b l bs (visH b (v0H b (gapN l h y p) h) c) (p + 1) := rfl
        have r2 : runE b l ((p, c) :: bs) h (y + 1) = v0E b (gapN l h (y + 1) p) h (y + 1) ++ (p, c, v0H b (gapN l h (y + 1) p) h) :: runE b l bs (visH b (v0H b (gapN l h (y + 1) p) h) c) (p + 1) := rfl
        rw [r1, r2, g1, g2]
        rfl
  cases bs with
  | nil => exact none_ (by simp)
  | cons q bs =>
    obtain ⟨p, c⟩ := q
    have hp := B.y (p, c) List.mem_cons_self
    have hc := B.c (p, c) List.mem_cons_self
    have hp' := List.pairwise_cons.mp B.a
    simp only at hp hc
    by_cases z : p = y
    · subst z
      have e0 : letAt ((p, c) :: bs) p = c := by rw [let_cons, if_pos rfl]
      refine ⟨bs, ⟨hp'.2, fun q hq => B.c q (List.mem_cons_of_mem _ hq), fun q hq => by have := hp'.1 q hq; simp only at this; omega⟩, fun x hx => by rw [let_cons, if_neg (by simp only; omega)], fun q hq => List.mem_cons_of_mem _ hq, by rw [e0]; omega, .inl ?_⟩
      rw [e0]
      have g1 : gapN l h p p = 0 := by unfold gapN; omega
      have r1 : runE b l ((p, c) :: bs) h p = v0E b (gapN l h p p) h p ++ (p, c, v0H b (gapN l h p p) h) :: runE b l bs (visH b (v0H b (gapN l h p p) h) c) (p + 1) := rfl
      rw [r1, g1]
      rfl
    · refine none_ fun q hq => ?_
      rcases List.mem_cons.mp hq with rfl | hq
      · simp only; omega
      · have := hp'.1 q hq
        simp only at this
        omega
theorem outs_ge (b : Bool) {l : Int} {bs : List (Int × Int)} {h : List Int} {y : Int} (B : ∀ q ∈ bs, y ≤ q.1) : ∀ q ∈ outs b (runE b l bs h y), y ≤ q.1 := fun q hq => by
  unfold outs at hq
  obtain ⟨e, he, rfl⟩ := List.mem_map.mp hq
  exact run_ge b bs (Int.le_refl _) B (List.mem_filter.mp he).1
theorem ldX_bd (b : Bool) {h : List Int} {l : Int} (H : Hd h l) (hl : 0 < l) (m : Int) : 0 ≤ ldX b h m ∧ ldX b h m ≤ 3 := by
  have := mem_held (ldX_mem b (hd_ne H hl) m)
  exact ⟨this.1, this.2.1⟩
theorem win_run (b : Bool) {l : Int} (hl : 0 < l) : ∀ (n : Nat) {bs : List (Int × Int)} {h : List Int} {y : Int}, Hd h l → Bal bs y → wn (outs b (runE b l bs h y)) y n = wX b h (wn bs y n)
  | 0, bs, h, y, H, B => rfl
  | n + 1, bs, h, y, H, B => by
    obtain ⟨bs', B', e1, _, hm, e2⟩ := run_box b hl H B
    have H' := visH_hd (b := b) H (hd_ne H hl) hm
    have ih := win_run b hl n H' B'
    have eb : wn bs (y + 1) n = wn bs' (y + 1) n := wn_congr n (y + 1) fun x hx => (e1 x hx).symm
    have ld := ldX_bd b H hl (letAt bs y)
    have og := outs_ge b (l := l) (h := visH b h (letAt bs y)) B'.y
    have z0 : letAt (outs b (runE b l bs' (visH b h (letAt bs y)) (y + 1))) y = 0 := let_none fun p hp => by have := og p hp; omega
    show letAt (outs b (runE b l bs h y)) y :: wn (outs b (runE b l bs h y)) (y + 1) n = ldX b h (letAt bs y) :: wX b (visH b h (letAt bs y)) (wn bs (y + 1) n)
    rw [eb, ← ih]
    rcases e2 with e2 | ⟨m0, f0, e2⟩
    · rw [e2, outs_cons]
      simp only
      by_cases q : 0 < ldX b h (letAt bs y)
      · rw [if_pos q]
        have c1 : letAt ([(y, ldX b h (letAt bs y))] ++ outs b (runE b l bs' (visH b h (letAt bs y)) (y + 1))) y = ldX b h (letAt bs y) := by
          show letAt ((y, ldX b h (letAt bs y)) :: _) y = _
          rw [let_cons, if_pos rfl]
        rw [c1]
        congr 1
        refine wn_congr n (y + 1) fun x hx => ?_
        show letAt ((y, ldX b h (letAt bs y)) :: _) x = _
        rw [let_cons, if_neg (by simp only; omega)]
        rfl
      · rw [if_neg q, List.nil_append, z0]
        congr 1
        omega
    · rw [e2, z0]
      congr 1
      rw [m0, ldX_full b H f0]
theorem win_fin (b : Bool) {l : Int} (hl : 0 < l) : ∀ (n : Nat) {bs : List (Int × Int)} {h : List Int} {y : Int}, Hd h l → Bal bs y → (∀ q ∈ bs, q.1 < y + (n : Int)) → (∀ q ∈ outs b (runE b l bs h y), q.1 < y + (n : Int)) → Hd (wHX b h (wn bs y n)) l ∧ (wHX b h (wn bs y n)).getD 0 0 = l
  | 0, bs, h, y, H, B, h1, h2 => by
    have eb : bs = [] := List.eq_nil_iff_forall_not_mem.mpr fun q hq => by have := B.y q hq; have := h1 q hq; omega
    subst eb
    have h0 := hd_le H
    have ln := len_run b hl [] y H (by simp)
    have og := outs_ge b (l := l) (h := h) B.y
    have eo : outs b (runE b l [] h y) = [] := List.eq_nil_iff_forall_not_mem.mpr fun q hq => by have := og q hq; have := h2 q hq; omega
    rw [eo, List.length_nil] at ln
    exact ⟨H, by show h.getD 0 0 = l; omega⟩
  | n + 1, bs, h, y, H, B, h1, h2 => by
    obtain ⟨bs', B', e1, sub, hm, e2⟩ := run_box b hl H B
    have H' := visH_hd (b := b) H (hd_ne H hl) hm
    have eb : wn bs (y + 1) n = wn bs' (y + 1) n := wn_congr n (y + 1) fun x hx => (e1 x hx).symm
    show Hd (wHX b (visH b h (letAt bs y)) (wn bs (y + 1) n)) l ∧ (wHX b (visH b h (letAt bs y)) (wn bs (y + 1) n)).getD 0 0 = l
    rw [eb]
    refine win_fin b hl n H' B' (fun q hq => by have := h1 q (sub q hq); omega) fun q hq => ?_
    have : q ∈ outs b (runE b l bs h y) := by
      rcases e2 with e2 | ⟨_, _, e2⟩
      · rw [e2, outs_cons]
        exact List.mem_append_right _ hq
      · rw [e2]
        exact hq
    have := h2 q this
    omega
theorem en_v0 {l : Int} (hl : 0 < l) : ∀ (n : Nat) {h : List Int} (y : Int), Hd h l → enE (v0E true n h y) = 0
  | 0, h, y, H => rfl
  | n + 1, h, y, H => by
    have ih := en_v0 hl n (y + 1) (visH_hd (b := true) H (hd_ne H hl) (m := 0) (by decide))
    have ld := ldX_bd true H hl 0
    unfold enE at ih ⊢
    show (((((y, 0, h) :: v0E true n (visH true h 0) (y + 1)).filter fun e => decide (ldX true e.2.2 e.2.1 < e.2.1)).length : Nat) : Int) = 0
    rw [List.filter_cons_of_neg (by simp; omega)]
    exact ih
theorem win_en {l : Int} (hl : 0 < l) : ∀ (n : Nat) {bs : List (Int × Int)} {h : List Int} {y : Int}, Hd h l → Bal bs y → (∀ q ∈ bs, q.1 < y + (n : Int)) → enE (runE true l bs h y) = wE h (wn bs y n)
  | 0, bs, h, y, H, B, h1 => by
    have eb : bs = [] := List.eq_nil_iff_forall_not_mem.mpr fun q hq => by have := B.y q hq; have := h1 q hq; omega
    subst eb
    exact en_v0 hl _ y H
  | n + 1, bs, h, y, H, B, h1 => by
    obtain ⟨bs', B', e1, sub, hm, e2⟩ := run_box true hl H B
    have H' := visH_hd (b := true) H (hd_ne H hl) hm
    have eb : wn bs (y + 1) n = wn bs' (y + 1) n := wn_congr n (y + 1) fun x hx => (e1 x hx).symm
    have ih := win_en hl n H' B' (fun q hq => by have := h1 q (sub q hq); omega)
    show enE (runE true l bs h y) = (1 - wr (letAt bs y) (ldL h (letAt bs y))) + wE (setH h (ldL h (letAt bs y)) (letAt bs y)) (wn bs (y + 1) n)
    rw [eb]
    have ih' : enE (runE true l bs' (visH true h (letAt bs y)) (y + 1)) = wE (setH h (ldL h (letAt bs y)) (letAt bs y)) (wn bs' (y + 1) n) := ih
    rw [← ih']
    rcases e2 with e2 | ⟨m0, f0, e2⟩
    · rw [e2]
      generalize letAt bs y = m at *
      unfold enE wr
      have e3 : ldX true h m = ldL h m := rfl
      by_cases q : ldL h m < m
      · rw [List.filter_cons_of_pos (by simpa [e3] using q), List.length_cons, if_pos q]
        omega
      · rw [List.filter_cons_of_neg (by simpa [e3] using q), if_neg q]
        omega
    · rw [e2]
      have := ldX_full true H f0
      have e3 : ldX true h 0 = ldL h 0 := rfl
      rw [m0]
      unfold wr
      rw [← e3, this, if_neg (by decide)]
      omega
end DL
namespace DL
open PySem L2
/-! ### runs undone -/
theorem ldB1 (a b c d : Int) : ldB [a, b, c, d] 1 = if 0 < c then 2 else if 0 < d then 3 else if 0 < a then 0 else if 0 < b then 1 else 0 := by
  unfold ldB
  rw [held4]
  by_cases h0 : 0 < a <;> by_cases h1 : 0 < b <;> by_cases h2 : 0 < c <;> by_cases h3 : 0 < d <;> simp [h0, h1, h2, h3]
theorem ldB2 (a b c d : Int) : ldB [a, b, c, d] 2 = if 0 < d then 3 else if 0 < a then 0 else if 0 < b then 1 else if 0 < c then 2 else 0 := by
  unfold ldB
  rw [held4]
  by_cases h0 : 0 < a <;> by_cases h1 : 0 < b <;> by_cases h2 : 0 < c <;> by_cases h3 : 0 < d <;> simp [h0, h1, h2, h3]
theorem ldB3 (a b c d : Int) : ldB [a, b, c, d] 3 = if 0 < a then 0 else if 0 < b then 1 else if 0 < c then 2 else if 0 < d then 3 else 0 := by
  unfold ldB
  rw [held4]
  by_cases h0 : 0 < a <;> by_cases h1 : 0 < b <;> by_cases h2 : 0 < c <;> by_cases h3 : 0 < d <;> simp [h0, h1, h2, h3]
theorem setL (x y z w : Int) : setH [x, y, z, w] 0 0 = [x - 1 + 1, y, z, w] ∧ setH [x, y, z, w] 0 1 = [x - 1, y + 1, z, w] ∧ setH [x, y, z, w] 0 2 = [x - 1, y, z + 1, w] ∧ setH [x, y, z, w] 0 3 = [x - 1, y, z, w + 1] ∧
    setH [x, y, z, w] 1 0 = [x + 1, y - 1, z, w] ∧ setH [x, y, z, w] 1 1 = [x, y - 1 + 1, z, w] ∧ setH [x, y, z, w] 1 2 = [x, y - 1, z + 1, w] ∧ setH [x, y, z, w] 1 3 = [x, y - 1, z, w + 1] ∧
    setH [x, y, z, w] 2 0 = [x + 1, y, z - 1, w] ∧ setH [x, y, z, w] 2 1 = [x, y + 1, z - 1, w] ∧ setH [x, y, z, w] 2 2 = [x, y, z - 1 + 1, w] ∧ setH [x, y, z, w] 2 3 = [x, y, z - 1, w + 1] ∧
    setH [x, y, z, w] 3 0 = [x + 1, y, z, w - 1] ∧ setH [x, y, z, w] 3 1 = [x, y + 1, z, w - 1] ∧ setH [x, y, z, w] 3 2 = [x, y, z + 1, w - 1] ∧ setH [x, y, z, w] 3 3 = [x, y, z, w - 1 + 1] := ⟨rfl, rfl, rfl, rfl, rfl, rfl, rfl, rfl, rfl, rfl, rfl, rfl, rfl, rfl, rfl, rfl⟩
theorem near_back {h : List Int} {l : Int} (H : Hd h l) (hl : 0 < l) {m : Int} (hm : 0 ≤ m ∧ m ≤ 3) (b : Bool) : ldX (!b) (visH b h m) (ldX b h m) = m ∧ visH (!b) (visH b h m) (ldX b h m) = h := by
  have ob := ldX_bd b H hl m
  have key : ldX (!b) (visH b h m) (ldX b h m) = m := by
    obtain ⟨x, y, z, w, rfl, hx, hy, hz, hw, hs⟩ := hd_split H
    have mm : m = 0 ∨ m = 1 ∨ m = 2 ∨ m = 3 := by omega
    have st := setL x y z w
    cases b
    · show ldL (setH [x, y, z, w] (ldB [x, y, z, w] m) m) (ldB [x, y, z, w] m) = m
      rcases mm with rfl | rfl | rfl | rfl
      · rw [ldB0]; (repeat' split) <;> simp only [st, ld0, ld1, ld2, ld3] <;> (repeat' split) <;> omega
      · rw [ldB1]; (repeat' split) <;> simp only [st, ld0, ld1, ld2, ld3] <;> (repeat' split) <;> omega
      · rw [ldB2]; (repeat' split) <;> simp only [st, ld0, ld1, ld2, ld3] <;> (repeat' split) <;> omega
      · rw [ldB3]; (repeat' split) <;> simp only [st, ld0, ld1, ld2, ld3] <;> (repeat' split) <;> omega
    · show ldB (setH [x, y, z, w] (ldL [x, y, z, w] m) m) (ldL [x, y, z, w] m) = m
      rcases mm with rfl | rfl | rfl | rfl
      · rw [ld0]; (repeat' split) <;> simp only [st, ldB0, ldB1, ldB2, ldB3] <;> (repeat' split) <;> omega
      · rw [ld1]; (repeat' split) <;> simp only [st, ldB0, ldB1, ldB2, ldB3] <;> (repeat' split) <;> omega
      · rw [ld2]; (repeat' split) <;> simp only [st, ldB0, ldB1, ldB2, ldB3] <;> (repeat' split) <;> omega
      · rw [ld3]; (repeat' split) <;> simp only [st, ldB0, ldB1, ldB2, ldB3] <;> (repeat' split) <;> omega
  refine ⟨key, ?_⟩
  have e : visH (!b) (visH b h m) (ldX b h m) = setH (setH h (ldX b h m) m) m (ldX b h m) := by
    unfold visH at key ⊢
    rw [key]
  rw [e]
  obtain ⟨x, y, z, w, rfl, hx, hy, hz, hw, hs⟩ := hd_split H
  generalize ldX b [x, y, z, w] m = o at *
  have mm : m = 0 ∨ m = 1 ∨ m = 2 ∨ m = 3 := by omega
  have oo : o = 0 ∨ o = 1 ∨ o = 2 ∨ o = 3 := by omega
  rcases mm with rfl | rfl | rfl | rfl <;> rcases oo with rfl | rfl | rfl | rfl <;> simp [setH]
theorem inv_word (b : Bool) {l : Int} (hl : 0 < l) : ∀ (w : List Int) {h : List Int}, Hd h l → L4 w → wX (!b) (wHX b h w) (wX b h w).reverse = w.reverse ∧ wHX (!b) (wHX b h w) (wX b h w).reverse = h
  | [], h, H, hw => ⟨rfl, rfl⟩
  | m :: w, h, H, hw => by
    have hm := hw m List.mem_cons_self
    obtain ⟨n1, n2⟩ := near_back H hl hm b
    have H' := visH_hd (b := b) H (hd_ne H hl) hm
    obtain ⟨i1, i2⟩ := inv_word b hl w H' fun x hx => hw x (List.mem_cons_of_mem _ hx)
    show wX (!b) (wHX b (visH b h m) w) (ldX b h m :: wX b (visH b h m) w).reverse = (m :: w).reverse ∧ wHX (!b) (wHX b (visH b h m) w) (ldX b h m :: wX b (visH b h m) w).reverse = h
    have app : ∀ (b : Bool) (u v h : List Int), wX b h (u ++ v) = wX b h u ++ wX b (wHX b h u) v ∧ wHX b h (u ++ v) = wHX b (wHX b h u) v := fun b u => by
      induction u with
      | nil => intro v h; exact ⟨rfl, rfl⟩
      | cons a u ih =>
        intro v h
        obtain ⟨j1, j2⟩ := ih v (visH b h a)
        exact ⟨congrArg (ldX b h a :: ·) j1, j2⟩
    rw [List.reverse_cons, List.reverse_cons, (app _ _ _ _).1, (app _ _ _ _).2, i1, i2]
    refine ⟨?_, n2⟩
    show w.reverse ++ [ldX (!b) (visH b h m) (ldX b h m)] = w.reverse ++ [m]
    rw [n1]
/-! ### standings by their letters -/
theorem wn_get {s : List (Int × Int)} : ∀ (n : Nat) (a : Int), wn s a n = (List.range n).map fun (k : Nat) => letAt s (a + (k : Int))
  | 0, a => rfl
  | n + 1, a => by
    show letAt s a :: wn s (a + 1) n = _
    rw [wn_get n (a + 1), List.range_succ_eq_map, List.map_cons, List.map_map]
    congr 1
    · rw [show a + ((0 : Nat) : Int) = a by omega]
    · refine List.map_congr_left fun k _ => ?_
      show letAt s (a + 1 + (k : Int)) = letAt s (a + ((k + 1 : Nat) : Int))
      rw [show a + 1 + (k : Int) = a + ((k + 1 : Nat) : Int) by omega]
def Pl4 (s : List (Int × Int)) (A B : Int) : Prop := ∀ q ∈ s, A ≤ q.1 ∧ q.1 ≤ B
theorem from_wn {s : List (Int × Int)} (st : Sd s) {a : Int} {n : Nat} (h : ∀ q ∈ s, a ≤ q.1 ∧ q.1 < a + (n : Int)) : s = ((List.range n).filter fun (k : Nat) => decide (0 < letAt s (a + (k : Int)))).map (fun (k : Nat) => (a + (k : Int), letAt s (a + (k : Int)))) := by
  rw [boxes st.a (fun p hp => (st.b p hp).1) a a n]
  have e1 : s.filter (fun p => decide (a ≤ p.1 ∧ p.1 < a + (n : Int))) = s := List.filter_eq_self.mpr fun p hp => by
    have := h p hp
    simp [this]
  rw [e1]
  conv => lhs; rw [← List.map_id s]
  refine List.map_congr_left fun p _ => ?_
  show p = (p.1 - a + a, p.2)
  rw [Int.sub_add_cancel]
theorem wn_inj {s t : List (Int × Int)} (st : Sd s) (tt : Sd t) {a : Int} {n : Nat} (h : ∀ q ∈ s, a ≤ q.1 ∧ q.1 < a + (n : Int)) (h2 : ∀ q ∈ t, a ≤ q.1 ∧ q.1 < a + (n : Int)) (e : wn s a n = wn t a n) : s = t := by
  have hk : ∀ k, k < n → letAt s (a + (k : Int)) = letAt t (a + (k : Int)) := fun k hk => by
    rw [wn_get, wn_get] at e
    have := congrArg (fun l => l[k]?) e
    simpa [List.getElem?_map, List.getElem?_range hk] using this
  rw [from_wn st h, from_wn tt h2]
  have e1 : (List.range n).filter (fun (k : Nat) => decide (0 < letAt s (a + (k : Int)))) = (List.range n).filter (fun (k : Nat) => decide (0 < letAt t (a + (k : Int)))) := List.filter_congr fun k h => by
    rw [hk k (List.mem_range.mp h)]
  rw [e1]
  refine List.map_congr_left fun k h => ?_
  rw [hk k (List.mem_range.mp (List.mem_filter.mp h).1)]
theorem wn_L4 {s : List (Int × Int)} (st : Sd s) (a : Int) (n : Nat) : L4 (wn s a n) := fun m hm => by
  rw [wn_get] at hm
  obtain ⟨k, _, rfl⟩ := List.mem_map.mp hm
  exact let_bd st.b _
theorem let_mem : ∀ {s : List (Int × Int)}, s.Pairwise (fun p q => p.1 < q.1) → ∀ p ∈ s, letAt s p.1 = p.2
  | [], _, p, hp => absurd hp List.not_mem_nil
  | q :: s, h, p, hp => by
    rw [let_cons]
    have h' := List.pairwise_cons.mp h
    rcases List.mem_cons.mp hp with rfl | hp
    · rw [if_pos rfl]
    · rw [if_neg (by have := h'.1 p hp; omega)]
      exact let_mem h'.2 p hp
theorem let_mir {s : List (Int × Int)} (st : Sd s) (x : Int) : letAt (mir false s) x = letAt s (-x) := by
  have sm := mir_sd false st
  have mm : ∀ p : Int × Int, p ∈ mir false s ↔ ((-p.1, p.2) : Int × Int) ∈ s := fun p => by
    show p ∈ (s.map fun p => (-p.1, p.2)).reverse ↔ _
    rw [List.mem_reverse, List.mem_map]
    constructor
    · rintro ⟨q, hq, rfl⟩
      simpa using hq
    · intro h
      exact ⟨_, h, by simp⟩
  by_cases z : ∃ c, (-x, c) ∈ s
  · obtain ⟨c, hc⟩ := z
    have h1 := let_mem st.a _ hc
    have h2 : ((x, c) : Int × Int) ∈ mir false s := (mm (x, c)).mpr hc
    have h3 := let_mem sm.a _ h2
    simp only at h1 h3
    rw [h1, h3]
  · rw [let_none fun p hp e => z ⟨p.2, by rw [← e]; exact (mm p).mp hp⟩, let_none fun p hp e => z ⟨p.2, by rw [← e]; exact hp⟩]
theorem wn_mir {s : List (Int × Int)} (st : Sd s) (a : Int) (n : Nat) : wn (mir false s) (1 - a - (n : Int)) n = (wn s a n).reverse := by
  rw [wn_get, wn_get]
  apply List.ext_getElem
  · simp
  · intro k h1 h2
    have hk : k < n := by simpa using h1
    rw [List.getElem_reverse]
    simp only [List.getElem_map, List.getElem_range, List.length_map, List.length_range]
    rw [let_mir st, show -(1 - a - (n : Int) + (k : Int)) = a + ((n - 1 - k : Nat) : Int) by omega]
/-! ### how far a run moves the balls -/
theorem run_le (b : Bool) {l : Int} (hl : 0 < l) {B : Int} : ∀ (bs : List (Int × Int)) {h : List Int} {y : Int}, Hd h l → (∀ q ∈ bs, 1 ≤ q.2 ∧ q.2 ≤ 3) → (∀ q ∈ bs, q.1 ≤ B) → y ≤ B + 1 → ∀ e ∈ runE b l bs h y, e.1 ≤ B + (bs.length : Int) + (l - h.getD 0 0)
  | [], h, y, H, hc, hb, hy, e, he => by
    have h0 := hd_le H
    have := v0E_mem b _ he
    rw [List.length_nil]
    omega
  | (p, c) :: bs, h, y, H, hc, hb, hy, e, he => by
    have h0 := hd_le H
    have hcc := hc (p, c) List.mem_cons_self
    have hpb := hb (p, c) List.mem_cons_self
    simp only at hcc hpb
    have g : gapN l h y p = (min (l - h.getD 0 0) (p - y)).toNat := rfl
    have he : e ∈ v0E b (gapN l h y p) h y ++ (p, c, v0H b (gapN l h y p) h) :: runE b l bs (visH b (v0H b (gapN l h y p) h) c) (p + 1) := he
    generalize gapN l h y p = gn at *
    obtain ⟨H2, e2⟩ := v0H_hd b hl gn H (by omega)
    have z := visH_0 (b := b) H2 hl hcc
    rw [List.length_cons]
    rcases List.mem_append.mp he with he | he
    · have := v0E_mem b _ he
      omega
    · rcases List.mem_cons.mp he with rfl | he
      · simp only
        omega
      · have := run_le b hl bs (y := p + 1) (visH_hd (b := b) H2 (hd_ne H2 hl) (m := c) ⟨by omega, hcc.2⟩) (fun q hq => hc q (List.mem_cons_of_mem _ hq)) (fun q hq => hb q (List.mem_cons_of_mem _ hq)) (by omega) e he
        omega
theorem outs_le (b : Bool) {l : Int} (hl : 0 < l) {bs : List (Int × Int)} (st : Sd bs) {A B : Int} (hb : Pl4 bs A B) : Pl4 (outs b (runE b l bs [l, 0, 0, 0] 0)) A (B + 12) := fun q hq => by
  unfold outs at hq
  obtain ⟨e, he, rfl⟩ := List.mem_map.mp hq
  have he := (List.mem_filter.mp he).1
  cases bs with
  | nil => rw [run_nil] at he; exact absurd he List.not_mem_nil
  | cons r bs =>
    obtain ⟨p, c⟩ := r
    have hp := hb (p, c) List.mem_cons_self
    have hc := st.b (p, c) List.mem_cons_self
    simp only at hp hc
    have sl := st.l
    rw [List.length_cons] at sl
    have hp' := List.pairwise_cons.mp st.a
    rw [run_start] at he
    rcases List.mem_cons.mp he with rfl | he
    · simp only
      omega
    · have z := visH_0 (b := b) (hd_start hl) hl hc
      have e0 : ([l, 0, 0, 0] : List Int).getD 0 0 = l := rfl
      have ge := run_ge b (b := A) bs (y := p + 1) (by omega) (fun q hq => (hb q (List.mem_cons_of_mem _ hq)).1) he
      have le := run_le b hl (B := B) bs (y := p + 1) (visH_hd (b := b) (hd_start hl) (hd_ne (hd_start hl) hl) (m := c) ⟨by omega, hc.2⟩) (fun q hq => st.b q (List.mem_cons_of_mem _ hq)) (fun q hq => (hb q (List.mem_cons_of_mem _ hq)).2) (by omega) e he
      simp only
      omega
theorem pl_mir {s : List (Int × Int)} {A B : Int} (h : Pl4 s A B) : Pl4 (mir false s) (-B) (-A) := fun q hq => by
  obtain ⟨p, hp, rfl⟩ := List.mem_map.mp (List.mem_reverse.mp hq)
  have := h p hp
  simp only
  omega
theorem ran_pl (b : Bool) {l : Int} (hl : 0 < l) {s : List (Int × Int)} (st : Sd s) {A B : Int} (h : Pl4 s A B) : Pl4 (ranS b l s) (A - 12) (B + 12) := fun q hq => by
  cases b
  · have := pl_mir (outs_le false hl (mir_sd false st) (pl_mir h)) q hq
    omega
  · have := outs_le true hl st h q hq
    omega
end DL
namespace DL
open PySem L2
/-! ### runs undo one another, commute, and keep the energies -/
theorem start_any (b : Bool) {l : Int} (bs : List (Int × Int)) (y y' : Int) : runE b l bs [l, 0, 0, 0] y = runE b l bs [l, 0, 0, 0] y' := by
  cases bs with
  | nil =>
    show v0E b (l - l).toNat _ y = v0E b (l - l).toNat _ y'
    rw [show (l - l).toNat = 0 by omega]
    rfl
  | cons q bs =>
    obtain ⟨p, c⟩ := q
    have g : ∀ y, gapN l [l, 0, 0, 0] y p = 0 := fun y => by
      unfold gapN
      show (min (l - l) (p - y)).toNat = 0
      omega
    have r : ∀ y, runE b l ((p, c) :: bs) [l, 0, 0, 0] y = v0E b (gapN l [l, 0, 0, 0] y p) [l, 0, 0, 0] y ++ (p, c, v0H b (gapN l [l, 0, 0, 0] y p) [l, 0, 0, 0]) :: runE b l bs (visH b (v0H b (gapN l [l, 0, 0, 0] y p) [l, 0, 0, 0]) c) (p + 1) := fun y => rfl
    rw [r, r, g, g]
    rfl
theorem bal_of {bs : List (Int × Int)} (st : Sd bs) {a : Int} (h : ∀ q ∈ bs, a ≤ q.1) : Bal bs a := ⟨st.a, st.b, h⟩
section
variable (b : Bool) {l : Int} (hl : 0 < l) {bs : List (Int × Int)} (st : Sd bs) {a : Int} (h : ∀ q ∈ bs, a ≤ q.1)
include hl st h
theorem word_run (n : Nat) : wn (outs b (runE b l bs [l, 0, 0, 0] 0)) a n = wX b [l, 0, 0, 0] (wn bs a n) := by
  rw [start_any b bs 0 a]
  exact win_run b hl n (hd_start hl) (bal_of st h)
theorem word_fin {n : Nat} (h2 : ∀ q ∈ bs, q.1 + 12 < a + (n : Int)) : wHX b [l, 0, 0, 0] (wn bs a n) = [l, 0, 0, 0] := by
  have le : Pl4 bs a (a + (n : Int) - 13) := fun q hq => ⟨h q hq, by have := h2 q hq; omega⟩
  have ol := outs_le b hl st le
  rw [start_any b bs 0 a] at ol
  obtain ⟨H, e⟩ := win_fin b hl n (hd_start hl) (bal_of st h) (fun q hq => by have := h2 q hq; omega) (fun q hq => by have := ol q hq; omega)
  obtain ⟨x, y, z, w, e2, hx, hy, hz, hw, hs⟩ := hd_split H
  rw [e2] at e ⊢
  have e : x = l := e
  have e1 : y = 0 := by omega
  have e3 : z = 0 := by omega
  have e4 : w = 0 := by omega
  rw [e, e1, e3, e4]
end
/-- a window around a standing -/
theorem window (s : List (Int × Int)) : ∃ A B : Int, Pl4 s A B := by
  induction s with
  | nil => exact ⟨0, 0, fun q hq => absurd hq List.not_mem_nil⟩
  | cons p s ih =>
    obtain ⟨A, B, h⟩ := ih
    refine ⟨min A p.1, max B p.1, fun q hq => ?_⟩
    rcases List.mem_cons.mp hq with rfl | hq
    · omega
    · have := h q hq
      omega
theorem pl_mono {s : List (Int × Int)} {A B A' B' : Int} (h : Pl4 s A B) (h1 : A' ≤ A) (h2 : B ≤ B') : Pl4 s A' B' := fun q hq => by have := h q hq; omega
theorem undo_t {l : Int} (hl : 0 < l) {s : List (Int × Int)} (st : Sd s) : ranS false l (ranS true l s) = s := by
  obtain ⟨A, B, h⟩ := window s
  have t1 := ran_sd st true hl
  have p1 := ran_pl true hl st h
  obtain ⟨n, hn⟩ : ∃ n : Nat, B + 40 < (A - 40) + (n : Int) := ⟨(B - A + 100).toNat, by omega⟩
  have m1 := mir_sd false t1
  have pm := pl_mir p1
  have w1 : wn (ranS true l s) (A - 40) n = wX true [l, 0, 0, 0] (wn s (A - 40) n) := word_run true hl st (a := A - 40) (fun q hq => by have := h q hq; omega) n
  have f1 : wHX true [l, 0, 0, 0] (wn s (A - 40) n) = [l, 0, 0, 0] := word_fin true hl st (a := A - 40) (fun q hq => by have := h q hq; omega) (fun q hq => by have := h q hq; omega)
  have w2 := word_run false hl m1 (a := 1 - (A - 40) - (n : Int)) (fun q hq => by have := pm q hq; omega) n
  rw [wn_mir t1, w1] at w2
  have iw := (inv_word true hl (wn s (A - 40) n) (hd_start hl) (wn_L4 st _ _)).1
  rw [f1] at iw
  have iw : wX false [l, 0, 0, 0] (wX true [l, 0, 0, 0] (wn s (A - 40) n)).reverse = (wn s (A - 40) n).reverse := iw
  rw [iw, ← wn_mir st] at w2
  have o1 := outs_sd t1 false hl
  have ol := outs_le false hl m1 pm
  have ms := pl_mir h
  have eq : outs false (boxE false l (ranS true l s)) = mir false s := wn_inj o1 (mir_sd false st) (a := 1 - (A - 40) - (n : Int)) (n := n) (fun q hq => by have := ol q hq; omega) (fun q hq => by have := ms q hq; omega) w2
  show mir false (outs false (boxE false l (ranS true l s))) = s
  rw [eq, mir_mir]
theorem undo_f {l : Int} (hl : 0 < l) {s : List (Int × Int)} (st : Sd s) : ranS true l (ranS false l s) = s := by
  obtain ⟨A, B, h⟩ := window s
  have t1 := ran_sd st false hl
  have p1 := ran_pl false hl st h
  obtain ⟨n, hn⟩ : ∃ n : Nat, B + 40 < (A - 40) + (n : Int) := ⟨(B - A + 100).toNat, by omega⟩
  have ms := mir_sd false st
  have pm := pl_mir h
  have w1 : wn (outs false (boxE false l s)) (1 - (A - 40) - (n : Int)) n = wX false [l, 0, 0, 0] (wn (mir false s) (1 - (A - 40) - (n : Int)) n) := word_run false hl ms (fun q hq => by have := pm q hq; omega) n
  have f1 := word_fin false hl ms (a := 1 - (A - 40) - (n : Int)) (n := n) (fun q hq => by have := pm q hq; omega) (fun q hq => by have := pm q hq; omega)
  have w2 := word_run true hl t1 (a := A - 40) (fun q hq => by have := p1 q hq; omega) n
  have e1 : wn (ranS false l s) (A - 40) n = (wX false [l, 0, 0, 0] (wn (mir false s) (1 - (A - 40) - (n : Int)) n)).reverse := by
    rw [← w1]
    have := wn_mir (outs_sd st false hl) (1 - (A - 40) - (n : Int)) n
    rw [show 1 - (1 - (A - 40) - (n : Int)) - (n : Int) = A - 40 by omega] at this
    exact this
  rw [e1] at w2
  have iw := (inv_word false hl (wn (mir false s) (1 - (A - 40) - (n : Int)) n) (hd_start hl) (wn_L4 ms _ _)).1
  rw [f1] at iw
  have iw : wX true [l, 0, 0, 0] (wX false [l, 0, 0, 0] (wn (mir false s) (1 - (A - 40) - (n : Int)) n)).reverse = (wn (mir false s) (1 - (A - 40) - (n : Int)) n).reverse := iw
  rw [iw, wn_mir st, List.reverse_reverse] at w2
  have o1 := ran_sd t1 true hl
  have ol := ran_pl true hl t1 p1
  exact wn_inj o1 st (a := A - 40) (n := n) (fun q hq => by have := ol q hq; omega) (fun q hq => by have := h q hq; omega) w2
theorem both {l k : Int} (hl : 0 < l) (hk : l ≤ k) {s : List (Int × Int)} (st : Sd s) : ranS true k (ranS true l s) = ranS true l (ranS true k s) ∧ enS l (ranS true k s) = enS l s ∧ enS k (ranS true l s) = enS k s := by
  have hk0 : 0 < k := by omega
  obtain ⟨A, B, h⟩ := window s
  obtain ⟨n, hn⟩ : ∃ n : Nat, B + 40 < (A - 40) + (n : Int) := ⟨(B - A + 100).toNat, by omega⟩
  have tl := ran_sd st true hl
  have tk := ran_sd st true hk0
  have pl := ran_pl true hl st h
  have pk := ran_pl true hk0 st h
  have wl : wn (ranS true l s) (A - 40) n = wX true [l, 0, 0, 0] (wn s (A - 40) n) := word_run true hl st (a := A - 40) (fun q hq => by have := h q hq; omega) n
  have wk : wn (ranS true k s) (A - 40) n = wX true [k, 0, 0, 0] (wn s (A - 40) n) := word_run true hk0 st (a := A - 40) (fun q hq => by have := h q hq; omega) n
  have wkl : wn (ranS true k (ranS true l s)) (A - 40) n = wX true [k, 0, 0, 0] (wn (ranS true l s) (A - 40) n) := word_run true hk0 tl (a := A - 40) (fun q hq => by have := pl q hq; omega) n
  have wlk : wn (ranS true l (ranS true k s)) (A - 40) n = wX true [l, 0, 0, 0] (wn (ranS true k s) (A - 40) n) := word_run true hl tk (a := A - 40) (fun q hq => by have := pk q hq; omega) n
  have fl : wHX true [l, 0, 0, 0] (wn s (A - 40) n) = [l, 0, 0, 0] := word_fin true hl st (a := A - 40) (fun q hq => by have := h q hq; omega) (fun q hq => by have := h q hq; omega)
  have fk : wHX true [k, 0, 0, 0] (wn (ranS true l s) (A - 40) n) = [k, 0, 0, 0] := word_fin true hk0 tl (a := A - 40) (fun q hq => by have := pl q hq; omega) (fun q hq => by have := pl q hq; omega)
  rw [wl] at fk
  rw [wX_true] at wl wk fk
  rw [wHX_true] at fl fk
  obtain ⟨c1, c2, c3⟩ := comm_word hl hk (wn_L4 st (A - 40) n) fl fk
  rw [wl, wX_true] at wkl
  rw [wk, wX_true] at wlk
  have en : ∀ {r : Int} (hr : 0 < r) {t : List (Int × Int)} (tt : Sd t), (∀ q ∈ t, A - 40 ≤ q.1 ∧ q.1 < A - 40 + (n : Int)) → enS r t = wE [r, 0, 0, 0] (wn t (A - 40) n) := fun {r} hr {t} tt hp => by
    show enE (runE true r t [r, 0, 0, 0] 0) = _
    rw [start_any true t 0 (A - 40)]
    exact win_en hr n (hd_start hr) (bal_of tt fun q hq => (hp q hq).1) fun q hq => (hp q hq).2
  refine ⟨?_, ?_, ?_⟩
  · have p1 := ran_pl true hk0 tl pl
    have p2 := ran_pl true hl tk pk
    refine wn_inj (ran_sd tl true hk0) (ran_sd tk true hl) (a := A - 40) (n := n) (fun q hq => by have := p1 q hq; omega) (fun q hq => by have := p2 q hq; omega) ?_
    rw [wkl, wlk, c1]
  · rw [en hl tk (fun q hq => by have := pk q hq; omega), en hl st (fun q hq => by have := h q hq; omega), wk, c2]
  · rw [en hk0 tl (fun q hq => by have := pl q hq; omega), en hk0 st (fun q hq => by have := h q hq; omega), wl, c3]
theorem comm_t {l k : Int} (hl : 0 < l) (hk : 0 < k) {s : List (Int × Int)} (st : Sd s) : ranS true k (ranS true l s) = ranS true l (ranS true k s) := by
  by_cases z : l ≤ k
  · exact (both hl z st).1
  · exact (both hk (by omega) st).1.symm
theorem en_t {l k : Int} (hl : 0 < l) (hk : 0 < k) {s : List (Int × Int)} (st : Sd s) : enS l (ranS true k s) = enS l s := by
  by_cases z : l ≤ k
  · exact (both hl z st).2.1
  · exact (both hk (by omega) st).2.2
theorem en_b (b : Bool) {l k : Int} (hl : 0 < l) (hk : 0 < k) {s : List (Int × Int)} (st : Sd s) : enS l (ranS b k s) = enS l s := by
  cases b
  · have := en_t hl hk (ran_sd st false hk)
    rw [undo_f hk st] at this
    exact this.symm
  · exact en_t hl hk st
theorem undo (b : Bool) {l : Int} (hl : 0 < l) {s : List (Int × Int)} (st : Sd s) : ranS (!b) l (ranS b l s) = s := by
  cases b
  · exact undo_f hl st
  · exact undo_t hl st
theorem comm_b (b c : Bool) {l k : Int} (hl : 0 < l) (hk : 0 < k) {s : List (Int × Int)} (st : Sd s) : ranS c k (ranS b l s) = ranS b l (ranS c k s) := by
  have ft : ∀ {l k : Int}, 0 < l → 0 < k → ∀ {s : List (Int × Int)}, Sd s → ranS false k (ranS true l s) = ranS true l (ranS false k s) := fun {l k} hl hk {s} st => by
    have e := comm_t (k := k) hl hk (ran_sd st false hk)
    rw [undo_f hk st] at e
    have := congrArg (ranS false k) e
    rw [undo_t hk (ran_sd (ran_sd st false hk) true hl)] at this
    exact this.symm
  cases b <;> cases c
  · have e := ft (l := k) (k := l) hk hl (ran_sd (ran_sd st false hl) false hk)
    rw [undo_f hk (ran_sd st false hl)] at e
    have e2 := ft (l := k) (k := l) hk hl (ran_sd st false hk)
    rw [undo_f hk st] at e2
    rw [e2, undo_t hk (ran_sd (ran_sd st false hk) false hl)]
  · exact (ft hk hl st).symm
  · exact ft hl hk st
  · exact comm_t hl hk st
end DL
namespace DL
open PySem L2
/-! ### the law's carrier, both ways: a list of letters -/
def beyB (b : Bool) (m a : Int) : Bool := if b = true then decide (a < m) else decide (m < a)
def extI (b : Bool) (L : List Int) : Int := if b = true then maxI L else minI L
def outX (b : Bool) (L : List Int) (m : Int) : Int := if (L.filter (beyB b m)) = [] then extI b L else extI b (L.filter (beyB b m))
def stepL (b : Bool) (L : List Int) (m : Int) : List Int := L.erase (outX b L m) ++ [m]
def cnt4 (L : List Int) : List Int := [((L.count 0 : Nat) : Int), ((L.count 1 : Nat) : Int), ((L.count 2 : Nat) : Int), ((L.count 3 : Nat) : Int)]
def In4 (L : List Int) : Prop := ∀ a ∈ L, 0 ≤ a ∧ a ≤ 3
theorem extI_mem (b : Bool) {L : List Int} (ne : L ≠ []) : extI b L ∈ L := by
  cases b
  · exact (minI_mem L ne).1
  · exact (maxI_mem L ne).1
theorem held_sorted (h : List Int) : (heldL h).Pairwise (fun a b => a < b) := by
  unfold heldL
  rw [List.pairwise_map]
  exact (List.Pairwise.filter _ List.pairwise_lt_range).imp fun h => by omega
theorem last_max {l : List Int} (hs : l.Pairwise (fun a b => a < b)) {a : Int} (e : l.getLast? = some a) : a ∈ l ∧ ∀ b ∈ l, b ≤ a := by
  obtain ⟨u, rfl⟩ := List.getLast?_eq_some_iff.mp e
  refine ⟨by simp, fun b hb => ?_⟩
  rcases List.mem_append.mp hb with hb | hb
  · have := (List.pairwise_append.mp hs).2.2 b hb a (by simp)
    omega
  · have := List.mem_singleton.mp hb
    omega
theorem head_min {l : List Int} (hs : l.Pairwise (fun a b => a < b)) {a : Int} (e : l.head? = some a) : a ∈ l ∧ ∀ b ∈ l, a ≤ b := by
  cases l with
  | nil => cases e
  | cons x l =>
    cases e
    refine ⟨List.mem_cons_self, fun b hb => ?_⟩
    rcases List.mem_cons.mp hb with rfl | hb
    · exact Int.le_refl _
    · have := (List.pairwise_cons.mp hs).1 b hb
      omega
theorem mem_cnt {L : List Int} (h : In4 L) (a : Int) : a ∈ heldL (cnt4 L) ↔ a ∈ L := by
  unfold cnt4
  rw [held4]
  have p : ∀ k : Int, (0 : Int) < ((L.count k : Nat) : Int) ↔ k ∈ L := fun k => by
    rw [← List.count_pos_iff]
    omega
  constructor
  · intro m
    simp only [List.mem_append] at m
    rcases m with m | m | m | m <;> split at m <;> first | (rename_i q; rw [List.mem_singleton.mp m]; exact (p _).mp q) | exact absurd m List.not_mem_nil
  · intro m
    have b := h a m
    have : a = 0 ∨ a = 1 ∨ a = 2 ∨ a = 3 := by omega
    simp only [List.mem_append]
    rcases this with rfl | rfl | rfl | rfl
    · left; rw [if_pos ((p _).mpr m)]; simp
    · right; left; rw [if_pos ((p _).mpr m)]; simp
    · right; right; left; rw [if_pos ((p _).mpr m)]; simp
    · right; right; right; rw [if_pos ((p _).mpr m)]; simp
theorem max_uniq {l l' : List Int} (hs : l.Pairwise (fun a b => a < b)) (e : ∀ a, a ∈ l ↔ a ∈ l') (ne : l' ≠ []) : l.getLast? = some (maxI l') := by
  obtain ⟨m1, m2⟩ := maxI_mem l' ne
  cases g : l.getLast? with
  | none =>
    rw [List.getLast?_eq_none_iff.mp g] at e
    exact absurd ((e _).mpr m1) List.not_mem_nil
  | some a =>
    obtain ⟨a1, a2⟩ := last_max hs g
    have := m2 a ((e a).mp a1)
    have := a2 _ ((e _).mpr m1)
    have : a = maxI l' := by omega
    rw [this]
theorem min_uniq {l l' : List Int} (hs : l.Pairwise (fun a b => a < b)) (e : ∀ a, a ∈ l ↔ a ∈ l') (ne : l' ≠ []) : l.head? = some (minI l') := by
  obtain ⟨m1, m2⟩ := minI_mem l' ne
  cases g : l.head? with
  | none =>
    rw [List.head?_eq_none_iff.mp g] at e
    exact absurd ((e _).mpr m1) List.not_mem_nil
  | some a =>
    obtain ⟨a1, a2⟩ := head_min hs g
    have := m2 a ((e a).mp a1)
    have := a2 _ ((e _).mpr m1)
    have : a = minI l' := by omega
    rw [this]
theorem ld_cnt (b : Bool) {L : List Int} (h : In4 L) (ne : L ≠ []) (m : Int) : ldX b (cnt4 L) m = outX b L m := by
  have hs := held_sorted (cnt4 L)
  cases b
  · have e : ∀ a, a ∈ (heldL (cnt4 L)).filter (fun a => decide (m < a)) ↔ a ∈ L.filter (fun a => decide (m < a)) := fun a => by
      rw [List.mem_filter, List.mem_filter, mem_cnt h]
    show ldB (cnt4 L) m = if L.filter (fun a => decide (m < a)) = [] then minI L else minI (L.filter fun a => decide (m < a))
    unfold ldB
    by_cases q : L.filter (fun a => decide (m < a)) = []
    · have q' : (heldL (cnt4 L)).filter (fun a => decide (m < a)) = [] := List.eq_nil_iff_forall_not_mem.mpr fun a ha => by
        have := (e a).mp ha
        rw [q] at this
        exact absurd this List.not_mem_nil
      rw [if_pos q, q', min_uniq hs (mem_cnt h) ne]
      rfl
    · rw [if_neg q, min_uniq (hs.filter _) e q]
  · have e : ∀ a, a ∈ (heldL (cnt4 L)).filter (fun a => decide (a < m)) ↔ a ∈ L.filter (fun a => decide (a < m)) := fun a => by
      rw [List.mem_filter, List.mem_filter, mem_cnt h]
    show ldL (cnt4 L) m = if L.filter (fun a => decide (a < m)) = [] then maxI L else maxI (L.filter fun a => decide (a < m))
    unfold ldL
    by_cases q : L.filter (fun a => decide (a < m)) = []
    · have q' : (heldL (cnt4 L)).filter (fun a => decide (a < m)) = [] := List.eq_nil_iff_forall_not_mem.mpr fun a ha => by
        have := (e a).mp ha
        rw [q] at this
        exact absurd this List.not_mem_nil
      rw [if_pos q, q', max_uniq hs (mem_cnt h) ne]
      rfl
    · rw [if_neg q, max_uniq (hs.filter _) e q]
theorem out_mem (b : Bool) {L : List Int} (ne : L ≠ []) (m : Int) : outX b L m ∈ L := by
  unfold outX
  split
  · exact extI_mem b ne
  · rename_i q
    exact (List.mem_filter.mp (extI_mem b q)).1
theorem step_cnt (b : Bool) {L : List Int} (h : In4 L) (ne : L ≠ []) {m : Int} (hm : 0 ≤ m ∧ m ≤ 3) : cnt4 (stepL b L m) = visH b (cnt4 L) m := by
  have mo := out_mem b ne m
  have o4 := h _ mo
  unfold visH setH
  rw [ld_cnt b h ne, stepL]
  generalize outX b L m = o at *
  have pos := List.count_pos_iff.mpr mo
  have oo : o = 0 ∨ o = 1 ∨ o = 2 ∨ o = 3 := by omega
  have mm : m = 0 ∨ m = 1 ∨ m = 2 ∨ m = 3 := by omega
  unfold cnt4
  rcases oo with rfl | rfl | rfl | rfl <;> rcases mm with rfl | rfl | rfl | rfl <;> simp [List.count_append, List.count_erase] <;> omega
theorem in4_step (b : Bool) {L : List Int} (h : In4 L) {m : Int} (hm : 0 ≤ m ∧ m ≤ 3) : In4 (stepL b L m) := fun a ha => by
  rcases List.mem_append.mp ha with ha | ha
  · exact h a (List.mem_of_mem_erase ha)
  · rw [List.mem_singleton.mp ha]; exact hm
theorem step_len (b : Bool) {L : List Int} (ne : L ≠ []) (m : Int) : (stepL b L m).length = L.length := by
  unfold stepL
  rw [List.length_append, List.length_erase_of_mem (out_mem b ne m)]
  have : 0 < L.length := List.length_pos_iff.mpr ne
  simp
  omega
theorem cnt_sum : ∀ {L : List Int}, In4 L → L.count 0 + L.count 1 + L.count 2 + L.count 3 = L.length
  | [], _ => rfl
  | a :: L, h => by
    have ih := cnt_sum (L := L) fun b hb => h b (List.mem_cons_of_mem _ hb)
    have b := h a (List.mem_cons_self ..)
    have : a = 0 ∨ a = 1 ∨ a = 2 ∨ a = 3 := by omega
    rcases this with rfl | rfl | rfl | rfl <;> simp [List.count_cons] <;> omega
theorem cnt_hd {L : List Int} (h : In4 L) : Hd (cnt4 L) (L.length : Int) := ⟨rfl, fun i hi => by
  simp only [cnt4, List.mem_cons, List.not_mem_nil, or_false] at hi
  omega, by
  have := cnt_sum h
  simp only [cnt4, List.sum_cons, List.sum_nil]
  omega⟩
/-- two carriers of unlike rooms that hold the same balls -/
theorem ld_cap (w : Bool) {h h' : List Int} {l c m : Int} (H : Hd h l) (H' : Hd h' c) (e : h'.drop 1 = h.drop 1) (q : m = 0 ∨ (0 < h.getD 0 0 ∧ 0 < h'.getD 0 0) ∨ c = l) : ldX w h' m = ldX w h m := by
  obtain ⟨a, b, c1, d, rfl, ha, hb, hc, hd, hs⟩ := hd_split H
  obtain ⟨a', b', c', d', rfl, ha', hb', hc', hd', hs'⟩ := hd_split H'
  simp only [List.drop_succ_cons, List.drop_zero, List.cons.injEq, and_true] at e
  obtain ⟨rfl, rfl, rfl⟩ := e
  rcases q with rfl | ⟨q1, q2⟩ | rfl
  · cases w
    · show ldB _ 0 = ldB _ 0
      rw [ldB0, ldB0]
    · show ldL _ 0 = ldL _ 0
      rw [ld0, ld0]
  · have q1 : 0 < a := q1
    have q2 : 0 < a' := q2
    have hh : heldL [a', b', c', d'] = heldL [a, b', c', d'] := by
      rw [held4, held4, if_pos q1, if_pos q2]
    cases w
    · show ldB _ m = ldB _ m
      unfold ldB
      rw [hh]
    · show ldL _ m = ldL _ m
      unfold ldL
      rw [hh]
  · have : a' = a := by omega
    rw [this]
theorem vis_cap {h h' : List Int} (h4 : h.length = 4) (h4' : h'.length = 4) (e : h'.drop 1 = h.drop 1) {o m : Int} (ho : 0 ≤ o ∧ o ≤ 3) (hm : 0 ≤ m ∧ m ≤ 3) : (setH h' o m).drop 1 = (setH h o m).drop 1 := by
  match h, h4, h', h4' with
  | [a, b, c, d], _, [a', b', c', d'], _ =>
    simp only [List.drop_succ_cons, List.drop_zero, List.cons.injEq, and_true] at e
    obtain ⟨rfl, rfl, rfl⟩ := e
    have oo : o = 0 ∨ o = 1 ∨ o = 2 ∨ o = 3 := by omega
    have mm : m = 0 ∨ m = 1 ∨ m = 2 ∨ m = 3 := by omega
    rcases oo with rfl | rfl | rfl | rfl <;> rcases mm with rfl | rfl | rfl | rfl <;> rfl
/-- the program's carrier and the law's: room l, n balls in all, at most k of them held -/
structure Rel (l : Int) (n k : Nat) (h L : List Int) : Prop where
  H : Hd h l
  I : In4 L
  len : (L.length : Int) = min l (n : Int)
  e : (cnt4 L).drop 1 = h.drop 1
  k : l - h.getD 0 0 ≤ (k : Int)
  l0 : 0 < l
  n0 : 0 < n
theorem rel_ne {l : Int} {n k : Nat} {h L : List Int} (r : Rel l n k h L) : L ≠ [] := fun e => by
  have h1 := r.len
  have h2 := r.l0
  have h3 := r.n0
  rw [e] at h1
  simp at h1
  omega
theorem rel_step (b : Bool) {l : Int} {n k : Nat} {h L : List Int} (r : Rel l n k h L) {m : Int} (hm : 0 ≤ m ∧ m ≤ 3) (k' : Nat) (q : (m = 0 ∧ k' = k) ∨ (1 ≤ m ∧ k < n ∧ k' = k + 1)) : Rel l n k' (visH b h m) (stepL b L m) ∧ ldX b h m = outX b L m := by
  have ne := rel_ne r
  have H' := cnt_hd r.I
  have h1 := r.len
  have h2 := r.k
  have hp := hd_ne r.H r.l0
  have qq : m = 0 ∨ (0 < h.getD 0 0 ∧ 0 < (cnt4 L).getD 0 0) ∨ (L.length : Int) = l := by
    rcases q with ⟨q, _⟩ | ⟨q, q2, _⟩
    · exact .inl q
    · right
      by_cases z : l ≤ (n : Int)
      · right; omega
      · left
        obtain ⟨a, b, c, d, e1, ha, hb, hc, hd, hs⟩ := hd_split r.H
        obtain ⟨a', b', c', d', e2, ha', hb', hc', hd', hs'⟩ := hd_split H'
        have e := r.e
        rw [e1, e2] at e
        rw [e1] at h2
        rw [e1, e2]
        simp only [List.drop_succ_cons, List.drop_zero, List.cons.injEq, and_true] at e
        have h2 : l - a ≤ k := h2
        show 0 < a ∧ 0 < a'
        omega
  have ld := ld_cap b r.H H' r.e qq
  rw [ld_cnt b r.I ne] at ld
  have o4 := mem_held (ldX_mem b hp m)
  refine ⟨⟨visH_hd r.H hp hm, in4_step b r.I hm, by rw [step_len b ne]; exact h1, ?_, ?_, r.l0, r.n0⟩, ld.symm⟩
  · rw [step_cnt b r.I ne hm]
    unfold visH
    rw [ld_cnt b r.I ne, ld]
    exact vis_cap r.H.l4 H'.l4 r.e ⟨o4.1, o4.2.1⟩ hm
  · rcases q with ⟨rfl, rfl⟩ | ⟨q, q2, rfl⟩
    · have := hd_le r.H
      by_cases z : h.getD 0 0 < l
      · rw [vis0_h0 (b := b) r.H z]
        omega
      · rw [(vis0_full (b := b) r.H (by omega)).1]
        exact h2
    · have := visH_0 (b := b) r.H r.l0 (c := m) ⟨q, hm.2⟩
      omega
end DL
namespace DL
open PySem L2
/-! ### runs are steps of Knuth -/
structure Car (C : List Int) (h : List Int) : Prop where
  s : Srt C
  i : In4 C
  n : C ≠ []
  c : cnt4 C = h
theorem srt_perm {r s : List Int} (hr : Srt r) (hs : Srt s) (p : r.Perm s) : r = s :=
  p.eq_of_pairwise (fun a b _ _ h1 h2 => Int.le_antisymm h1 h2) hr hs
theorem srt_of (L : List Int) : ∃ r, Srt r ∧ r.Perm L := by
  induction L with
  | nil => exact ⟨[], srt_nil, List.Perm.refl _⟩
  | cons a L ih =>
    obtain ⟨r, s, p⟩ := ih
    have key : ∀ r : List Int, Srt r → ∃ q, Srt q ∧ q.Perm (a :: r) := by
      intro r
      induction r with
      | nil => exact fun _ => ⟨[a], by simp [Srt], List.Perm.refl _⟩
      | cons b r ih =>
        intro hs
        by_cases c : a ≤ b
        · refine ⟨a :: b :: r, List.pairwise_cons.mpr ⟨fun x hx => ?_, hs⟩, List.Perm.refl _⟩
          rcases List.mem_cons.mp hx with rfl | hx
          · exact c
          · have := hs.hd x hx
            omega
        · obtain ⟨q, q1, q2⟩ := ih hs.tl
          refine ⟨b :: q, List.pairwise_cons.mpr ⟨fun x hx => ?_, q1⟩, (q2.cons b).trans (List.Perm.swap a b r)⟩
          rcases List.mem_cons.mp (q2.mem_iff.mp hx) with rfl | hx
          · omega
          · exact hs.hd x hx
    obtain ⟨q, q1, q2⟩ := key r s
    exact ⟨q, q1, q2.trans (p.cons a)⟩
theorem cnt_perm {L M : List Int} (p : L.Perm M) : cnt4 L = cnt4 M := by
  unfold cnt4
  rw [p.count_eq, p.count_eq, p.count_eq, p.count_eq]
theorem ri_perm (x : Int) : ∀ r : List Int, ((ri r x).1 ++ (ri r x).2).Perm (x :: r)
  | [] => List.Perm.refl _
  | a :: r => by
    by_cases c : x < a
    · rw [ri_lt r c]
      show (x :: (r ++ [a])).Perm (x :: a :: r)
      exact (List.perm_append_singleton a r).cons x
    · rw [ri_ge r c]
      show (a :: ((ri r x).1 ++ (ri r x).2)).Perm (x :: a :: r)
      exact ((ri_perm x r).cons a).trans (List.Perm.swap x a r)
theorem car_step {C h : List Int} (H : Car C h) {m : Int} (hm : 0 ≤ m ∧ m ≤ 3) : ∃ D, Car D (setH h (ldL h m) m) ∧ Stp C m (ldL h m) D := by
  obtain ⟨s, i, n, rfl⟩ := H
  have e1 : setH (cnt4 C) (ldL (cnt4 C) m) m = cnt4 (stepL true C m) := (step_cnt true i n hm).symm
  have e2 : ldL (cnt4 C) m = outX true C m := ld_cnt true i n m
  obtain ⟨D, d1, d2⟩ := srt_of (stepL true C m)
  rw [e1, e2]
  have mo := out_mem true n m
  have pm : (outX true C m :: D).Perm (m :: C) := by
    have a1 : (outX true C m :: C.erase (outX true C m)).Perm C := (List.perm_cons_erase mo).symm
    have a2 : D.Perm (m :: C.erase (outX true C m)) := d2.trans (by unfold stepL; exact List.perm_append_singleton _ _)
    exact ((a2.cons _).trans (List.Perm.swap _ _ _)).trans (a1.cons m)
  have mD : m ∈ D := d2.mem_iff.mpr (by unfold stepL; simp)
  refine ⟨D, ⟨d1, fun a ha => in4_step true i hm a (d2.mem_iff.mp ha), fun e => ?_, cnt_perm d2⟩, d1, ?_⟩
  · rw [e] at mD; exact absurd mD List.not_mem_nil
  have inD : ∀ b ∈ D, b = m ∨ b ∈ C := fun b hb => by
    have := d2.mem_iff.mp hb
    unfold stepL at this
    rcases List.mem_append.mp this with w | w
    · exact .inr (List.mem_of_mem_erase w)
    · exact .inl (List.mem_singleton.mp w)
  have oe : outX true C m = if C.filter (fun a => decide (a < m)) = [] then maxI C else maxI (C.filter fun a => decide (a < m)) := rfl
  have rp := ri_perm (outX true C m) D
  have rs := ri_srt (x := outX true C m) d1
  by_cases q : C.filter (fun a => decide (a < m)) = []
  · rw [if_pos q] at oe
    have ge : ∀ b ∈ C, m ≤ b := fun b hb => by
      by_cases w : m ≤ b
      · exact w
      · have : b ∈ C.filter (fun a => decide (a < m)) := List.mem_filter.mpr ⟨hb, by simp; omega⟩
        rw [q] at this; exact absurd this List.not_mem_nil
    have mx := (maxI_mem C n).2
    have mo' := ge _ mo
    have le : ∀ b ∈ D, b ≤ outX true C m := fun b hb => by
      rcases inD b hb with rfl | hb
      · exact mo'
      · rw [oe]; exact mx b hb
    right
    rw [ri_top le] at rp rs ⊢
    rw [List.append_nil] at rp
    have sm : Srt (m :: C) := List.pairwise_cons.mpr ⟨ge, s⟩
    have e : D ++ [outX true C m] = m :: C := srt_perm rs sm (rp.trans pm)
    rw [e]
  · rw [if_neg q] at oe
    obtain ⟨m1, m2⟩ := maxI_mem _ q
    have lt : outX true C m < m := by
      rw [oe]
      simpa using (List.mem_filter.mp m1).2
    left
    obtain ⟨c, hc⟩ := ri_some mD lt
    have c1 := ri_least d1 hc mD lt
    obtain rfl : c = m := by
      rcases ri_out (r := D) (x := outX true C m) with w | ⟨b, w, wb, wl⟩
      · rw [w] at hc; simp at hc
      · rw [w] at hc
        obtain rfl : b = c := (List.cons.inj hc).1
        rcases inD b wb with w | w
        · exact w
        · by_cases z : b < m
          · have := m2 b (List.mem_filter.mpr ⟨w, by simpa using z⟩)
            rw [← oe] at this
            omega
          · omega
    rw [hc] at rp
    have := (List.perm_append_singleton c (ri D (outX true C c)).1).symm.trans (rp.trans pm)
    have e := srt_perm rs s (List.Perm.cons_inv this)
    exact Prod.ext e hc
/-- sorted rows with one count are equal -/
theorem car_uniq {C D h : List Int} (a : Car C h) (b : Car D h) : C = D := by
  refine srt_perm a.s b.s (List.perm_iff_count.mpr fun x => ?_)
  have e : cnt4 C = cnt4 D := a.c.trans b.c.symm
  unfold cnt4 at e
  simp only [List.cons.injEq, Int.natCast_inj, and_true] at e
  by_cases q : 0 ≤ x ∧ x ≤ 3
  · have : x = 0 ∨ x = 1 ∨ x = 2 ∨ x = 3 := by omega
    rcases this with rfl | rfl | rfl | rfl
    · exact e.1
    · exact e.2.1
    · exact e.2.2.1
    · exact e.2.2.2
  · rw [List.count_eq_zero.mpr fun h => q (a.i x h), List.count_eq_zero.mpr fun h => q (b.i x h)]
/-- a run -/
theorem run_k : ∀ (w : List Int) {C h : List Int}, Car C h → L4 w → ∃ F, Car F (wH h w) ∧ K (C.reverse ++ w) (wO h w ++ F.reverse)
  | [], C, h, H, _ => ⟨C, H, by rw [List.append_nil]; exact .refl _⟩
  | m :: w, C, h, H, hw => by
    obtain ⟨D, d, st⟩ := car_step H (hw m List.mem_cons_self)
    obtain ⟨F, f, k⟩ := run_k w d fun x hx => hw x (List.mem_cons_of_mem _ hx)
    refine ⟨F, f, ?_⟩
    have a := st.k.left w
    have b := k.right [ldL h m]
    rw [List.append_assoc] at a
    exact a.trans b
theorem run_raise {i : Int} : ∀ (w w1 : List Int) {C C1 h h1 : List Int}, Car C h → Car C1 h1 → C.length = C1.length → w.length = w1.length → L4 w → L4 w1 → raise (C.reverse ++ w) i = some (C1.reverse ++ w1) →
    ∃ F F1, Car F (wH h w) ∧ Car F1 (wH h1 w1) ∧ F.length = F1.length ∧ K (C.reverse ++ w) (wO h w ++ F.reverse) ∧ raise (wO h w ++ F.reverse) i = some (wO h1 w1 ++ F1.reverse)
  | [], [], C, C1, h, h1, H, H1, lC, _, _, _, e => ⟨C, C1, H, H1, lC, by rw [List.append_nil]; exact .refl _, by simpa [wO] using e⟩
  | [], b :: w1, C, C1, h, h1, H, H1, lC, lw, _, _, e => by simp at lw
  | a :: w, [], C, C1, h, h1, H, H1, lC, lw, _, _, e => by simp at lw
  | m :: w, m1 :: w1, C, C1, h, h1, H, H1, lC, lw, hw, hw1, e => by
    have lw : w.length = w1.length := by simpa using lw
    obtain ⟨D, d, st⟩ := car_step H (hw m List.mem_cons_self)
    obtain ⟨D1, d1, st1⟩ := car_step H1 (hw1 m1 List.mem_cons_self)
    have hw' : L4 w := fun x hx => hw x (List.mem_cons_of_mem _ hx)
    have hw1' : L4 w1 := fun x hx => hw1 x (List.mem_cons_of_mem _ hx)
    have lD : D.length = D1.length := by rw [← st.len, ← st1.len, lC]
    have stay : D = D1 → w = w1 → ∃ F F1, Car F (wH h (m :: w)) ∧ Car F1 (wH h1 (m1 :: w1)) ∧ F = F1 ∧ wO (setH h (ldL h m) m) w = wO (setH h1 (ldL h1 m1) m1) w1 ∧ K (D.reverse ++ w) (wO (setH h (ldL h m) m) w ++ F.reverse) := fun q1 q2 => by
      have hh : setH h (ldL h m) m = setH h1 (ldL h1 m1) m1 := by rw [← d.c, ← d1.c, q1]
      obtain ⟨F, f, k⟩ := run_k w d hw'
      refine ⟨F, F, f, ?_, rfl, by rw [hh, q2], k⟩
      show Car F (wH (setH h1 (ldL h1 m1) m1) w1)
      rw [← hh, ← q2]
      exact f
    -- ahead of the carrier's way: the letter let out and the carrier
    have mid : raise (ldL h m :: (D.reverse ++ w)) i = some (ldL h1 m1 :: (D1.reverse ++ w1)) := by
      have ea : C.reverse ++ m :: w = (C.reverse ++ [m]) ++ w := by simp
      have eb : C1.reverse ++ m1 :: w1 = (C1.reverse ++ [m1]) ++ w1 := by simp
      have ec : ldL h m :: (D.reverse ++ w) = (ldL h m :: D.reverse) ++ w := rfl
      rw [ea, eb, raise_app] at e
      rw [ec, raise_app, ← (st.k.ep i).2]
      by_cases q : ph (C.reverse ++ [m]) i < ep w i
      · rw [if_pos q] at e ⊢
        cases r : raise w i with
        | none => rw [r] at e; simp at e
        | some v =>
          rw [r] at e
          have e : (C.reverse ++ [m]) ++ v = (C1.reverse ++ [m1]) ++ w1 := by simpa using e
          obtain ⟨x1, x2⟩ := List.append_inj e (by simp [lC])
          obtain ⟨y1, y2⟩ := List.append_inj' x1 rfl
          have y1 := List.reverse_inj.mp y1
          obtain rfl : m = m1 := (List.cons.inj y2).1
          obtain ⟨z1, z2⟩ := (y1 ▸ st).uniq st1
          rw [← x2, ← z1, ← z2]
          rfl
      · rw [if_neg q] at e ⊢
        cases r : raise (C.reverse ++ [m]) i with
        | none => rw [r] at e; simp at e
        | some v =>
          rw [r] at e
          obtain ⟨C2, m2, a2, D2, v1, v2, v3, v4, v5⟩ := st.raise r
          have e : v ++ w = (C1.reverse ++ [m1]) ++ w1 := by simpa using e
          rw [v1] at e
          obtain ⟨x1, x2⟩ := List.append_inj e (by simp [lC, v4])
          obtain ⟨y1, y2⟩ := List.append_inj' x1 rfl
          have y1 := List.reverse_inj.mp y1
          obtain rfl : m2 = m1 := (List.cons.inj y2).1
          obtain ⟨z1, z2⟩ := (y1 ▸ v3).uniq st1
          rw [v2, ← x2, ← z1, ← z2]
          rfl
    have kk : ∀ F : List Int, K (D.reverse ++ w) (wO (setH h (ldL h m) m) w ++ F.reverse) → K (C.reverse ++ m :: w) (wO h (m :: w) ++ F.reverse) := fun F k => by
      have a := st.k.left w
      have b := k.right [ldL h m]
      rw [List.append_assoc] at a
      exact a.trans b
    have go : ∀ F : List Int, wO h (m :: w) ++ F.reverse = ldL h m :: (wO (setH h (ldL h m) m) w ++ F.reverse) := fun F => rfl
    have go1 : ∀ F : List Int, wO h1 (m1 :: w1) ++ F.reverse = ldL h1 m1 :: (wO (setH h1 (ldL h1 m1) m1) w1 ++ F.reverse) := fun F => rfl
    rw [raise_cons] at mid
    by_cases q : (if ldL h m = i then 1 else 0) < ep (D.reverse ++ w) i
    · rw [if_pos q] at mid
      cases r : raise (D.reverse ++ w) i with
      | none => rw [r] at mid; simp at mid
      | some v =>
        rw [r] at mid
        have mid : ldL h m :: v = ldL h1 m1 :: (D1.reverse ++ w1) := by simpa using mid
        obtain ⟨y1, y2⟩ := List.cons.inj mid
        rw [y2] at r
        obtain ⟨F, F1, f, f1, lF, k, rr⟩ := run_raise w w1 d d1 lD lw hw' hw1' r
        refine ⟨F, F1, f, f1, lF, kk F k, ?_⟩
        rw [go, go1, raise_cons, ← (k.ep i).1, if_pos q, rr, ← y1]
        rfl
    · rw [if_neg q] at mid
      by_cases z : ldL h m = i + 1
      · rw [if_pos z] at mid
        have mid : i :: (D.reverse ++ w) = ldL h1 m1 :: (D1.reverse ++ w1) := by simpa using mid
        obtain ⟨y1, y2⟩ := List.cons.inj mid
        obtain ⟨x1, x2⟩ := List.append_inj y2 (by simp [lD])
        obtain ⟨F, F1, f, f1, eF, eO, k⟩ := stay (List.reverse_inj.mp x1) x2
        refine ⟨F, F1, f, f1, by rw [eF], kk F k, ?_⟩
        rw [go, go1, raise_cons, ← (k.ep i).1, if_neg q, if_pos z, eF, eO, y1]
      · rw [if_neg z] at mid; simp at mid
end DL
namespace DL
open PySem L2
/-! ### the colours; the law's tableau is pL -/
theorem colours_ok {s : List (Int × Int)} (h : Std s) (S : AH) : d_colours_of [.p (sV s)] S = .ok (.p (tupI (s.map (·.2)))) S := by
  have c := chk_ok h
  have hz : (dit (s.map bV)).length ≤ 16777216 := by rw [dit_len_s]; have := h.l; omega
  have l : ∀ S : AH, lcGo ckT (.tp [.nm 1, .nm 2]) dYes (dVar 2) [some (.p (sV s)), none, none] (dit (s.map bV)) S = .ok (s.map fun p => PV.int p.2) S := fun S =>
    lc_mapD bV (fun p => PV.int p.2) s fun p hp => ⟨_, rfl, by simp⟩
  simp only [sV] at c l ⊢
  simp [-List.map_map, d_colours_of, b_colours_of_, c, ev_kLc hz, wipeD, l]
  simp [Function.comp_def]
theorem tb_turn {R S : AH} {n i : Nat} {rs : List (List Int)} (N : Nest R S n (pr rs)) (hi : i < rs.length) (hz : ∀ r ∈ rs, r.length ≤ 1000) (x : Int) (d0 d2 d5 d6 d7 : Option DV) :
    (gts x (rowAt rs i) = [] → ∃ S' e6 e7, Nest R S' n (pr (rs.set i (rowAt rs i ++ [x]))) ∧ L0_law_tableau [d0, some (.c n), d2, some (.p (.int x)), some (.p (.int (i : Int))), d5, d6, d7] S = .bk [d0, some (.c n), d2, some (.p (.int x)), some (.p (.int (i : Int))), d5, e6, e7] S') ∧
    (∀ k t, gts x (rowAt rs i) = k :: t → ∃ S' e6 e7, Nest R S' n (pr (rs.set i ((rowAt rs i).set k x))) ∧ L0_law_tableau [d0, some (.c n), d2, some (.p (.int x)), some (.p (.int (i : Int))), d5, d6, d7] S = .nx [d0, some (.c n), d2, some (.p (.int (itAt (rowAt rs i) k))), some (.p (.int ((i : Int) + 1))), d5, e6, e7] S') := by
  obtain ⟨c, e1, e2, e3, e4, e5⟩ := N.ix (i := i) (by simpa using hi)
  rw [pr_at hi] at e2
  have rz : (rowAt rs i).length ≤ 1000 := hz _ (rowAt_mem hi)
  have le := lenO_c e2
  rw [List.length_map] at le
  have ln := N.lenO
  rw [pr_len] at ln
  have ni : ¬ (i : Int) = (rs.length : Int) := by omega
  have ni2 : ¬ i = rs.length := by omega
  have rg := rg_len (rowAt rs i).length (by omega)
  have hz' : (rangeI 0 (rowAt rs i).length).length ≤ 16777216 := by rw [rangeI_len]; omega
  have it : ∀ j < (rowAt rs i).length, ixO (.c c) (.p (.int (j : Int))) S = some (.p (.int (itAt (rowAt rs i) j)), S) := fun j hj => ixO_c e2 (by rw [atI_nat (by simpa using hj)]; simp [itAt, List.getD, hj])
  have hset : ∀ r : List Int, Nest R (S.set c (.lst (r.map PV.int))) n (pr (rs.set i r)) := fun r => by
    have := e5 (r.map PV.int)
    rwa [pr_set] at this
  constructor
  · intro c0
    refine ⟨_, some (.p (.lst [])), d7, hset (rowAt rs i ++ [x]), ?_⟩
    have ap : ∀ y : PV, appendM (.c c) [.p y] S = some (.p .non, S.set c (.lst ((rowAt rs i).map PV.int ++ [y]))) := fun y => append_c e2 (by rw [List.length_map]; omega)
    have km : ∀ (fs : Sig → AH → Res (List DV)) (δ : Sig), kMeth appendM fs δ (.c c) S = (fs δ S).bind (kMeth2 appendM (.c c)) := fun fs δ => kMeth_c e2
    simp [L0_law_tableau, ln, ni, ni2, e1, le, rg, ev_kLc hz']
    rw [lc_rfilter (fun j => decide (x < itAt (rowAt rs i) j)) (fun j => .int (j : Int)) (fun j hj => by simp [wipeD, e1, it j hj]) (fun j hj _ => by simp [wipeD])]
    unfold gts at c0
    rw [c0]
    simp [wipeD, e1, km, ap]
  · intro k G' hG
    have hk : k < (rowAt rs i).length := (gts_mem.mp (by rw [hG]; exact List.mem_cons_self)).1
    have ik := it k hk
    have i0 : ∀ S : AH, ixO (.p (.lst (.int (k : Int) :: G'.map fun (j : Nat) => PV.int (j : Int)))) (.p (.int 0)) S = some (.p (.int (k : Int)), S) := fun S => ixO_lst (atI_at (by decide) rfl)
    have st : setIx (.c c) (.p (.int (k : Int))) (.p (.int x)) S = some (S.set c (.lst (((rowAt rs i).set k x).map PV.int))) := by
      rw [setIx_c e2 (by rw [List.length_map]; exact hk), List.map_set]
    refine ⟨_, some (.p (.lst (.int (k : Int) :: G'.map fun (j : Nat) => PV.int (j : Int)))), d7, hset ((rowAt rs i).set k x), ?_⟩
    simp [L0_law_tableau, ln, ni, ni2, e1, le, rg, ev_kLc hz']
    rw [lc_rfilter (fun j => decide (x < itAt (rowAt rs i) j)) (fun j => .int (j : Int)) (fun j hj => by simp [wipeD, e1, it j hj]) (fun j hj _ => by simp [wipeD])]
    unfold gts at hG
    rw [hG]
    have ln' : ¬ ((G'.length : Int) + 1 = 0) := by omega
    simp [wipeD, dAsgS, e1, i0, ik, st, ln']
theorem rowAt_mid (dn : List (List Int)) (r : List Int) (rs : List (List Int)) : rowAt (dn ++ r :: rs) dn.length = r := by unfold rowAt; simp
theorem set_mid (dn : List (List Int)) (r q : List Int) (rs : List (List Int)) : (dn ++ r :: rs).set dn.length q = dn ++ q :: rs := by simp
theorem tb_loop {R : AH} {n : Nat} (d0 d2 : Option DV) : ∀ (rest dn : List (List Int)) (lo : Int) (S : AH) (x : Int) (d5 d6 d7 : Option DV), Nest R S n (pr (dn ++ rest)) → (∀ r ∈ dn ++ rest, r.length ≤ 1000) → (dn ++ rest).length ≤ 1000 →
    ∃ S' e3 e4 e5 e6 e7, Nest R S' n (pr (dn ++ (bumpL rest x).1)) ∧ forGo ckT (.nm 5) L0_law_tableau (rangeI lo (rest.length + 1)) [d0, some (.c n), d2, some (.p (.int x)), some (.p (.int (dn.length : Int))), d5, d6, d7] S = .nx [d0, some (.c n), d2, e3, e4, e5, e6, e7] S'
  | [], dn, lo, S, x, d5, d6, d7, Ne, _, hl => by
    rw [List.append_nil] at Ne hl
    obtain ⟨S2, p1, p2⟩ := Ne.push [.int x] (by rw [pr_len]; omega)
    have p2' : Nest R S2 n (pr (dn ++ [[x]])) := by rw [← pr_app]; exact p2
    have km : ∀ (fs : Sig → AH → Res (List DV)) (δ : Sig), kMeth appendM fs δ (.c n) S = (fs δ S).bind (kMeth2 appendM (.c n)) := fun fs δ => Ne.meth
    have ln := Ne.lenO
    rw [pr_len] at ln
    refine ⟨S2, some (.p (.int x)), some (.p (.int (dn.length : Int))), some (.p (.int lo)), d6, d7, p2', ?_⟩
    rw [List.length_nil, range_succ, for_nm]
    show afterTurn (L0_law_tableau [d0, some (.c n), d2, some (.p (.int x)), some (.p (.int (dn.length : Int))), some (.p (.int lo)), d6, d7] S) _ = _
    simp [L0_law_tableau, ln, km, p1]
  | r :: rs, dn, lo, S, x, d5, d6, d7, Ne, g, hl => by
    have hi : dn.length < (dn ++ r :: rs).length := by simp
    obtain ⟨t1, t2⟩ := tb_turn Ne hi g x d0 d2 (some (.p (.int lo))) d6 d7
    rw [rowAt_mid] at t1 t2
    rw [List.length_cons, range_succ, for_nm]
    show ∃ S' e3 e4 e5 e6 e7, _ ∧ afterTurn (L0_law_tableau [d0, some (.c n), d2, some (.p (.int x)), some (.p (.int (dn.length : Int))), some (.p (.int lo)), d6, d7] S) _ = _
    cases e : gts x r with
    | nil =>
      obtain ⟨S', e6, e7, N', e'⟩ := t1 e
      rw [set_mid] at N'
      refine ⟨S', some (.p (.int x)), some (.p (.int (dn.length : Int))), some (.p (.int lo)), e6, e7, by rw [bumpL_stop e]; exact N', ?_⟩
      rw [e', after_bk]
    | cons k t =>
      obtain ⟨S', e6, e7, N', e'⟩ := t2 k t e
      rw [set_mid] at N'
      have ed : dn ++ r.set k x :: rs = (dn ++ [r.set k x]) ++ rs := by simp
      have g' : ∀ q ∈ (dn ++ [r.set k x]) ++ rs, q.length ≤ 1000 := fun q hq => by
        rw [← ed] at hq
        rcases List.mem_append.mp hq with w | w
        · exact g q (List.mem_append_left _ w)
        · rcases List.mem_cons.mp w with rfl | w
          · rw [List.length_set]; exact g r (by simp)
          · exact g q (by simp [w])
      rw [ed] at N'
      rw [e', after_nx]
      have ih := tb_loop d0 d2 rs (dn ++ [r.set k x]) (lo + 1) S' (itAt r k) (some (.p (.int lo))) e6 e7 N' g' (by simpa using hl)
      have el : ((dn ++ [r.set k x]).length : Int) = (dn.length : Int) + 1 := by simp
      rw [el] at ih
      rw [bumpL_on e]
      obtain ⟨S2, f3, f4, f5, f6, f7, a1, a2⟩ := ih
      exact ⟨S2, f3, f4, f5, f6, f7, by simpa using a1, a2⟩
theorem tb_all {R : AH} {n : Nat} (d0 : Option DV) : ∀ (v : List Int) (T : List (List Int)) (N : Nat) (S : AH) (d2 d3 d4 d5 d6 d7 : Option DV), Nest R S n (pr T) → Good N T → T.length + v.length ≤ 900 → N + v.length ≤ 900 →
    ∃ S' e2 e3 e4 e5 e6 e7, Nest R S' n (pr (insW T v.reverse)) ∧ forGo ckT (.nm 2) L1_law_tableau (dit (v.map PV.int)) [d0, some (.c n), d2, d3, d4, d5, d6, d7] S = .nx [d0, some (.c n), e2, e3, e4, e5, e6, e7] S'
  | [], T, N, S, d2, d3, d4, d5, d6, d7, Ne, g, _, _ => ⟨S, d2, d3, d4, d5, d6, d7, Ne, for_nil⟩
  | a :: v, T, N, S, d2, d3, d4, d5, d6, d7, Ne, g, hl, hN => by
    rw [List.length_cons] at hl hN
    obtain ⟨S1, e3, e4, e5, e6, e7, N1, l1⟩ := tb_loop d0 (some (.p (.int a))) T [] 0 S a d5 d6 d7 Ne (fun r hr => by have := (g r hr).2; omega) (by simp; omega)
    have bl := bumpL_len (rs := T) (x := a)
    obtain ⟨S2, f2, f3, f4, f5, f6, f7, N2, l2⟩ := tb_all d0 v (bumpL T a).1 (N + 1) S1 (some (.p (.int a))) e3 e4 e5 e6 e7 N1 (bumpL_good g) (by omega) (by omega)
    refine ⟨S2, f2, f3, f4, f5, f6, f7, by rw [List.reverse_cons, insW_app]; exact N2, ?_⟩
    have ln := Ne.lenO
    rw [pr_len] at ln
    have rg : ∀ S : AH, kRng1 [.p (.int ((T.length : Int) + 1))] S = .ok (rangeI 0 (T.length + 1), ckT) S := fun S => rg_len (T.length + 1) (by omega) S
    have l1 : forGo ckT (.nm 5) L0_law_tableau (rangeI 0 (T.length + 1)) [d0, some (.c n), some (.p (.int a)), some (.p (.int a)), some (.p (.int 0)), d5, d6, d7] S = _ := l1
    have one : L1_law_tableau [d0, some (.c n), some (.p (.int a)), d3, d4, d5, d6, d7] S = .nx [d0, some (.c n), some (.p (.int a)), e3, e4, e5, e6, e7] S1 := by
      simp [L1_law_tableau, asg2, ln, rg, l1]
    show forGo ckT (.nm 2) L1_law_tableau (.p (.int a) :: dit (v.map PV.int)) _ S = _
    rw [for_nm]
    show afterTurn (L1_law_tableau [d0, some (.c n), some (.p (.int a)), d3, d4, d5, d6, d7] S) _ = _
    rw [one, after_nx, l2]
theorem nest_nil (S : AH) : Nest S (S ++ [.nst []]) S.length (pr []) := by
  have := nest_new S (pr [])
  simpa [pr] using this
def tbV (w : List Int) : PV := .lst ((pr (pL w)).map PV.lst)
theorem tab_ok {w : List Int} (hw : w.length ≤ 900) (S : AH) : d_law_tableau [.p (tupI w)] S = .ok (.p (tbV w)) S := by
  obtain ⟨S', e2, e3, e4, e5, e6, e7, N, l⟩ := tb_all (R := S) (n := S.length) (some (.p (tupI w))) w.reverse [] 0 (S ++ [.nst []]) none none none none none none (nest_nil S) Good.nil (by simpa using hw) (by simpa using hw)
  rw [List.reverse_reverse] at N
  have pre := N.pre
  obtain ⟨ks, K⟩ := N
  have fz : frzD S.length S' (.c S.length) = some (.lst ((pr (pL w)).map PV.lst)) := Nest.frz ⟨ks, K⟩
  have l : forGo ckT (.nm 2) L1_law_tableau (dit (w.map PV.int).reverse) [some (.p (.tup (w.map PV.int))), some (.c S.length), none, none, none, none, none, none] (S ++ [.nst []]) = .nx [some (.p (tupI w)), some (.c S.length), e2, e3, e4, e5, e6, e7] S' := by
    rw [← List.map_reverse]; exact l
  refine (dDef_ap rfl).trans ?_
  show gcK S false (b_law_tableau_ [some (.p (tupI w)), none, none, none, none, none, none, none] S) = _
  have body : b_law_tableau_ [some (.p (tupI w)), none, none, none, none, none, none, none] S = .rt (.c S.length) S' := by
    simp [b_law_tableau_, l]
  rw [body]
  have gc : gcK S false (.rt (.c S.length) S') = .ok (.p (.lst ((pr (pL w)).map PV.lst))) (S'.take S.length) := by
    unfold frzD at fz
    dsimp only at fz
    rw [if_pos (Nat.le_refl _)] at fz
    simp only [K.nst] at fz
    obtain ⟨ps, f, e⟩ := Option.map_eq_some_iff.mp fz
    rw [gc_nst (okC_take pre) (Nat.le_refl _) K.nst f, e]
  rw [gc, pre]
  rfl
end DL
namespace DL
open PySem L2
/-! ### the law's step of colours -/
def nt (ks : List Nat) : List PV := ks.map fun (k : Nat) => PV.int (k : Int)
theorem nt_len (ks : List Nat) : (nt ks).length = ks.length := List.length_map _
theorem nt_app (ks ls : List Nat) : nt (ks ++ ls) = nt ks ++ nt ls := List.map_append
theorem nt_one (k : Nat) : nt [k] = [.int (k : Int)] := rfl
theorem ix_word {w : List Int} {k : Nat} {x : Int} {v : List Int} (e : w.drop k = x :: v) (S : AH) : ixO (.p (.tup (w.map PV.int))) (.p (.int (k : Int))) S = some (.p (.int x), S) := by
  have e0 : w[k]? = some x := by
    have : (w.drop k)[0]? = some x := by rw [e]; rfl
    rwa [List.getElem?_drop] at this
  have hk : k < w.length := (List.getElem?_eq_some_iff.mp e0).1
  refine ixO_tup ?_
  rw [atI_nat (by simpa using hk)]
  simp [List.getD, e0]
theorem drop_next {w : List Int} {k : Nat} {x : Int} {v : List Int} (e : w.drop k = x :: v) : w.drop (k + 1) = v := by
  rw [← List.drop_drop, e]; rfl
theorem un_loop (w : List Int) (i : Int) (R : AH) (d2 d6 d7 : Option DV) : ∀ (v : List Int) (k : Nat) (hi lo : List Nat) (x : Option DV), w.drop k = v → k + v.length ≤ 1000 → hi.length ≤ k → lo.length ≤ k →
    ∃ x', forGo ckT (.nm 5) L0_law_stepped (rangeI k v.length) [some (.p (.tup (w.map PV.int))), some (.p (.int i)), d2, some (.c R.length), some (.c (R.length + 1)), x, d6, d7] (R ++ [.lst (nt lo), .lst (nt hi)]) = .nx [some (.p (.tup (w.map PV.int))), some (.p (.int i)), d2, some (.c R.length), some (.c (R.length + 1)), x', d6, d7] (R ++ [.lst (nt (ug i k v hi lo).2), .lst (nt (ug i k v hi lo).1)])
  | [], k, hi, lo, x, _, _, _, _ => ⟨x, by simp [ug]⟩
  | a :: v, k, hi, lo, x, e, hz, hh, hl => by
    rw [List.length_cons] at hz
    have ia := ix_word e
    have e' := drop_next e
    rw [List.length_cons, range_succ, for_nm]
    have ck : ((k : Int) + 1) = ((k + 1 : Nat) : Int) := by omega
    have zl : (nt lo).length < 16777216 := by rw [nt_len]; omega
    have zh : (nt hi).length < 16777216 := by rw [nt_len]; omega
    have ap0 : ∀ y : PV, appendM (.c R.length) [.p y] (R ++ [.lst (nt lo), .lst (nt hi)]) = some (.p .non, R ++ [.lst (nt lo ++ [y]), .lst (nt hi)]) := fun y => append_two0 zl
    have ap1 : ∀ y : PV, appendM (.c (R.length + 1)) [.p y] (R ++ [.lst (nt lo), .lst (nt hi)]) = some (.p .non, R ++ [.lst (nt lo), .lst (nt hi ++ [y])]) := fun y => append_two1 zh
    unfold ug
    by_cases c1 : a = i
    · obtain ⟨x', ih⟩ := un_loop w i R d2 d6 d7 v (k + 1) hi (lo ++ [k]) (some (.p (.int k))) e' (by omega) (by omega) (by rw [List.length_append]; simp; omega)
      refine ⟨x', ?_⟩
      rw [if_pos c1, ← ih, nt_app, nt_one, ck]
      simp [L0_law_stepped, ia, c1, ap0]
    · by_cases c2 : a = i + 1
      · by_cases c3 : lo = []
        · obtain ⟨x', ih⟩ := un_loop w i R d2 d6 d7 v (k + 1) (hi ++ [k]) lo (some (.p (.int k))) e' (by omega) (by rw [List.length_append]; simp; omega) (by omega)
          refine ⟨x', ?_⟩
          rw [if_neg c1, if_pos c2, if_pos c3, ← ih, nt_app, nt_one, ck]
          have ni : ¬ i + 1 = i := by omega
          subst c3
          simp [L0_law_stepped, ia, c2, ap1, ni, nt_len]
        · obtain ⟨u, y, rfl⟩ : ∃ u y, lo = u ++ [y] := by
            rcases List.eq_nil_or_concat lo with h | ⟨u, y, rfl⟩
            · exact absurd h c3
            · exact ⟨u, y, List.concat_eq_append⟩
          rw [List.dropLast_concat]
          rw [List.length_append] at hl
          obtain ⟨x', ih⟩ := un_loop w i R d2 d6 d7 v (k + 1) hi u (some (.p (.int k))) e' (by omega) (by omega) (by omega)
          refine ⟨x', ?_⟩
          rw [if_neg c1, if_pos c2, if_neg c3, ← ih, ck, nt_app, nt_one]
          have ni : ¬ i + 1 = i := by omega
          have lp : (0 : Int) < ((nt u).length : Int) + 1 := by omega
          simp [L0_law_stepped, ia, c2, ni, lp]
      · obtain ⟨x', ih⟩ := un_loop w i R d2 d6 d7 v (k + 1) hi lo (some (.p (.int k))) e' (by omega) (by omega) (by omega)
        refine ⟨x', ?_⟩
        rw [if_neg c1, if_neg c2, ← ih, ck]
        simp [L0_law_stepped, ia, c1, c2]
def stW (up : Bool) (w : List Int) (i : Int) : Option (List Int) := if up = true then raise w i else lower w i
def opv : Option (List Int) → PV
  | none => .non
  | some u => tupI u
theorem cut_last1 {α : Type} {xs : List α} {x : α} : cutL (xs ++ [x]) (some (-1)) none = [x] := by
  unfold cutL
  have e1 : HT.sIx (xs ++ [x]).length 0 (some (-1)) = xs.length := by
    show (if (-1 : Int) < 0 then ((-1 : Int) + ((xs ++ [x]).length : Int)).toNat else min (-1 : Int).toNat (xs ++ [x]).length) = _
    rw [if_pos (by decide), List.length_append]; simp; omega
  have e2 : HT.sIx (xs ++ [x]).length (xs ++ [x]).length none = (xs ++ [x]).length := rfl
  rw [e1, e2]
  simp
theorem cut_nil {α : Type} (a b : Option Int) : cutL ([] : List α) a b = [] := by unfold cutL; simp
theorem stepped_ok {w : List Int} (hw : w.length ≤ 900) (i : Int) (up : Bool) (S : AH) : d_law_stepped [.p (tupI w), .p (.int i), .p (.bl up)] S = .ok (.p (opv (stW up w i))) S := by
  obtain ⟨x', e⟩ := un_loop w i S (some (.p (.bl up))) none none w 0 [] [] none rfl (by omega) (by simp) (by simp)
  rw [show ((0 : Nat) : Int) = 0 from rfl, show nt [] = [] from rfl] at e
  have rg := rg_len w.length (by omega)
  have q : ug i 0 w [] [] = upr w i := rfl
  rw [q] at e
  have e1 : ∀ p : Nat, cutL (w.map PV.int) none (some (p : Int)) = (w.take p).map PV.int := fun p => by rw [cutL_map, cut_to]
  have e2 : ∀ p : Nat, cutL (w.map PV.int) (some ((p : Int) + 1)) none = (w.drop (p + 1)).map PV.int := fun p => by rw [cutL_map, show ((p : Int) + 1) = ((p + 1 : Nat) : Int) by omega, cut_from]
  have a1 : ∀ (p : Nat) (x : Int) (S : AH), addO (.p (.tup ((w.take p).map PV.int))) (.p (.tup [.int x])) S = some (.p (.tup ((w.take p).map PV.int ++ [.int x])), S) := fun p x S => addO_tup (by simp; omega)
  have a2 : ∀ (p : Nat) (x : Int) (S : AH), addO (.p (.tup ((w.take p).map PV.int ++ [.int x]))) (.p (.tup ((w.drop (p + 1)).map PV.int))) S = some (.p (.tup ((wl w p x).map PV.int)), S) := fun p x S => by
    rw [addO_tup (by simp; omega)]
    unfold wl
    simp only [List.map_append, List.map_cons, List.map_nil]
  have sl : ∀ (A B : List PV) (lo hi : Option Int), slO (.c S.length) lo hi (S ++ [.lst A, .lst B]) = some (.p (.lst (cutL A lo hi)), S ++ [.lst A, .lst B]) := fun A B lo hi => by
    unfold slO
    simp only [litems_c two_get0]
  have sl1 : ∀ (A B : List PV) (lo hi : Option Int), slO (.c (S.length + 1)) lo hi (S ++ [.lst A, .lst B]) = some (.p (.lst (cutL B lo hi)), S ++ [.lst A, .lst B]) := fun A B lo hi => by
    unfold slO
    simp only [litems_c two_get1]
  have i0 : ∀ (p : Nat) (S : AH), ixO (.p (.lst [.int (p : Int)])) (.p (.int 0)) S = some (.p (.int (p : Int)), S) := fun p S => ixO_lst (atI_at (by decide) rfl)
  refine (dDef_ap rfl).trans ?_
  show gcK S false (b_law_stepped_ [some (.p (tupI w)), some (.p (.int i)), some (.p (.bl up)), none, none, none, none, none] S) = _
  cases up
  · show _ = Res.ok (DV.p (opv (lower w i))) S
    unfold lower
    cases h : (upr w i).2 with
    | nil =>
      rw [h, show nt [] = [] from rfl] at e
      simp [b_law_stepped_, rg, e, sl, cut_nil, opv]
    | cons p r =>
      have c : cutL (nt (p :: r)) none (some 1) = [.int (p : Int)] := by
        have := cut_to (xs := nt (p :: r)) (k := 1)
        exact this
      rw [h] at e
      generalize hZ : nt (p :: r) = Z at *
      simp [-List.map_take, -List.map_drop, b_law_stepped_, rg, e, sl, c, i0, e1, e2, a1, a2, opv]
  · show _ = Res.ok (DV.p (opv (raise w i))) S
    unfold raise
    rcases List.eq_nil_or_concat (upr w i).1 with h | ⟨u, p, h⟩
    · rw [h, show nt [] = [] from rfl] at e
      simp [b_law_stepped_, rg, e, sl1, cut_nil, opv, h]
    · rw [List.concat_eq_append] at h
      have c : cutL (nt (u ++ [p])) (some (-1)) none = [.int (p : Int)] := by rw [nt_app, nt_one, cut_last1]
      rw [h] at e
      have gl : (u ++ [p]).getLast? = some p := by simp
      rw [h, gl]
      generalize hZ : nt (u ++ [p]) = Z at *
      simp [-List.map_take, -List.map_drop, b_law_stepped_, rg, e, sl1, c, i0, e1, e2, a1, a2, opv]
end DL
namespace DL
open PySem L2
/-! ### other colours at the same places -/
theorem raise_len {w u : List Int} {i : Int} (h : raise w i = some u) : u.length = w.length := (raise_back i h).2.2.2
def wth (s : List (Int × Int)) (c : List Int) : List (Int × Int) := List.zipWith (fun p x => (p.1, x)) s c
def cls (s : List (Int × Int)) : List Int := s.map (·.2)
theorem wth_len {s : List (Int × Int)} {c : List Int} (h : c.length = s.length) : (wth s c).length = s.length := by unfold wth; simp [h]
theorem wth_cls : ∀ {s : List (Int × Int)} {c : List Int}, c.length = s.length → cls (wth s c) = c
  | [], [], _ => rfl
  | [], _ :: _, h => by simp at h
  | _ :: _, [], h => by simp at h
  | p :: s, x :: c, h => by
    show x :: cls (wth s c) = x :: c
    rw [wth_cls (by simpa using h)]
theorem wth_self : ∀ (s : List (Int × Int)), wth s (cls s) = s
  | [] => rfl
  | p :: s => by
    show (p.1, p.2) :: wth s (cls s) = p :: s
    rw [wth_self s]
theorem wth_wth : ∀ (s : List (Int × Int)) (c d : List Int), c.length = s.length → wth (wth s c) d = wth s d
  | [], _, _, _ => by simp [wth]
  | p :: s, [], d, h => by simp at h
  | p :: s, x :: c, [], h => by simp [wth]
  | p :: s, x :: c, y :: d, h => by
    show (p.1, y) :: wth (wth s c) d = (p.1, y) :: wth s d
    rw [wth_wth s c d (by simpa using h)]
theorem wth_pl : ∀ {s : List (Int × Int)} {c : List Int} {q : Int × Int}, q ∈ wth s c → ∃ p ∈ s, p.1 = q.1 ∧ q.2 ∈ c
  | [], c, q, h => by simp [wth] at h
  | p :: s, [], q, h => by simp [wth] at h
  | p :: s, x :: c, q, h => by
    have h : q ∈ (p.1, x) :: wth s c := h
    rcases List.mem_cons.mp h with rfl | h
    · exact ⟨p, List.mem_cons_self, rfl, List.mem_cons_self⟩
    · obtain ⟨p', a, b, c'⟩ := wth_pl h
      exact ⟨p', List.mem_cons_of_mem _ a, b, List.mem_cons_of_mem _ c'⟩
theorem wth_asc : ∀ {s : List (Int × Int)} {c : List Int}, s.Pairwise (fun p q => p.1 < q.1) → (wth s c).Pairwise (fun p q => p.1 < q.1)
  | [], c, h => by simp [wth]
  | p :: s, [], h => by simp [wth]
  | p :: s, x :: c, h => by
    obtain ⟨h1, h2⟩ := List.pairwise_cons.mp h
    refine List.pairwise_cons.mpr ⟨fun q hq => ?_, wth_asc h2⟩
    obtain ⟨p', a, b, -⟩ := wth_pl hq
    have := h1 p' a
    show p.1 < q.1
    omega
theorem wth_sd {s : List (Int × Int)} {c : List Int} (st : Sd s) (hc : ∀ x ∈ c, 1 ≤ x ∧ x ≤ 3) : Sd (wth s c) :=
  ⟨by have := st.l; unfold wth; simp; omega, fun q hq => by obtain ⟨p, -, -, h⟩ := wth_pl hq; exact hc _ h, wth_asc st.a⟩
theorem bal_tl {p : Int × Int} {s : List (Int × Int)} {a : Int} (B : Bal (p :: s) a) : Bal s (p.1 + 1) :=
  ⟨(List.pairwise_cons.mp B.a).2, fun q hq => B.c q (List.mem_cons_of_mem _ hq), fun q hq => by have := (List.pairwise_cons.mp B.a).1 q hq; omega⟩
theorem bal_up {s : List (Int × Int)} {a : Int} (B : Bal s a) (h : letAt s a = 0) : Bal s (a + 1) ∧ ∀ q ∈ s, q.1 ≠ a := by
  have k : ∀ q ∈ s, q.1 ≠ a := fun q hq e => by
    have := let_mem B.a q hq
    rw [e, h] at this
    have := (B.c q hq).1
    omega
  exact ⟨⟨B.a, B.c, fun q hq => by have := B.y q hq; have := k q hq; omega⟩, k⟩
theorem let_head {p : Int × Int} {s : List (Int × Int)} {a : Int} (B : Bal (p :: s) a) (h : letAt (p :: s) a ≠ 0) : p.1 = a := by
  by_cases e : p.1 = a
  · exact e
  · exfalso
    apply h
    refine let_none fun q hq w => ?_
    have := B.y p List.mem_cons_self
    rcases List.mem_cons.mp hq with rfl | hq
    · exact e w
    · have := (List.pairwise_cons.mp B.a).1 q hq
      omega
theorem cols_wn : ∀ (n : Nat) {s : List (Int × Int)} {a : Int}, Bal s a → (∀ q ∈ s, q.1 < a + (n : Int)) → cols (wn s a n) = cls s
  | 0, [], a, B, h => rfl
  | 0, p :: s, a, B, h => by
    have := h p List.mem_cons_self
    have := B.y p List.mem_cons_self
    omega
  | n + 1, s, a, B, h => by
    by_cases q : letAt s a = 0
    · have B' := (bal_up B q).1
      have ih := cols_wn n B' fun q hq => by have := h q hq; omega
      show cols (letAt s a :: wn s (a + 1) n) = cls s
      rw [q]
      exact ih
    · cases s with
      | nil => exact absurd rfl q
      | cons p s =>
        have e := let_head B q
        have c1 := B.c p List.mem_cons_self
        have ih := cols_wn n (bal_tl B) fun r hr => by have := h r (List.mem_cons_of_mem _ hr); omega
        show cols (letAt (p :: s) a :: wn (p :: s) (a + 1) n) = p.2 :: cls s
        rw [let_cons, if_pos e, wn_congr n (a + 1) (t := s) (fun x hx => by rw [let_cons, if_neg (by omega)]), ← ih, e]
        have : decide (1 ≤ p.2) = true := decide_eq_true c1.1
        simp [cols, this]
theorem wn_wth : ∀ (n : Nat) {s : List (Int × Int)} {a : Int} {u : List Int}, Bal s a → (∀ q ∈ s, q.1 < a + (n : Int)) → Sam (wn s a n) u → (∀ x ∈ u, 0 ≤ x) → wn (wth s (cols u)) a n = u
  | 0, s, a, [], B, h, e, hu => rfl
  | 0, s, a, x :: u, B, h, e, hu => by simp [Sam, wn] at e
  | n + 1, s, a, [], B, h, e, hu => by simp [Sam, wn] at e
  | n + 1, s, a, x :: u, B, h, e, hu => by
    have e : decide (1 ≤ letAt s a) = decide (1 ≤ x) ∧ Sam (wn s (a + 1) n) u := by simpa [Sam, wn] using e
    have hu' : ∀ y ∈ u, 0 ≤ y := fun y hy => hu y (List.mem_cons_of_mem _ hy)
    have x0 := hu x List.mem_cons_self
    by_cases q : letAt s a = 0
    · have x1 : x = 0 := by
        rw [q] at e
        have : ¬ 1 ≤ x := by simpa using e.1
        omega
      have B' := bal_up B q
      have ih := wn_wth n B'.1 (fun q hq => by have := h q hq; omega) e.2 hu'
      have c0 : cols (x :: u) = cols u := by rw [x1]; rfl
      rw [c0]
      show letAt (wth s (cols u)) a :: wn (wth s (cols u)) (a + 1) n = x :: u
      rw [ih, x1, let_none fun r hr w => by obtain ⟨p, h1, h2, -⟩ := wth_pl hr; exact B'.2 p h1 (by omega)]
    · cases s with
      | nil => exact absurd rfl q
      | cons p s =>
        have ep := let_head B q
        have c1 := B.c p List.mem_cons_self
        have lp : letAt (p :: s) a = p.2 := by rw [let_cons, if_pos ep]
        rw [lp] at e
        have x1 : 1 ≤ x := by simpa [c1.1] using e.1
        have w1 : wn (p :: s) (a + 1) n = wn s (a + 1) n := wn_congr n (a + 1) (fun y hy => by rw [let_cons, if_neg (by omega)])
        rw [w1, ← ep] at e
        have ih := wn_wth n (bal_tl B) (fun r hr => by have := h r (List.mem_cons_of_mem _ hr); omega) e.2 hu'
        have c0 : cols (x :: u) = x :: cols u := by simp [cols, x1]
        rw [c0]
        show letAt ((p.1, x) :: wth s (cols u)) a :: wn ((p.1, x) :: wth s (cols u)) (a + 1) n = x :: u
        rw [let_cons, if_pos ep, wn_congr n (a + 1) (t := wth s (cols u)) (fun y hy => by rw [let_cons, if_neg (by simp only; omega)]), ← ep, ih]
theorem car0 {l : Int} (hl : 0 < l) : Car (List.replicate l.toNat 0) [l, 0, 0, 0] := by
  refine ⟨List.pairwise_replicate.mpr (by right; omega), fun a ha => ?_, fun e => ?_, ?_⟩
  · rw [List.eq_of_mem_replicate ha]; decide
  · have := congrArg List.length e
    simp at this
    omega
  · unfold cnt4
    rw [List.count_replicate_self, List.count_replicate, List.count_replicate, List.count_replicate]
    simp
    omega
theorem cols_zeros (n : Nat) (w : List Int) : cols (List.replicate n 0 ++ w) = cols w ∧ cols (w ++ List.replicate n 0) = cols w := by
  have : cols (List.replicate n 0) = [] := by
    unfold cols
    rw [List.filter_replicate]
    simp
  constructor <;> simp only [cols, List.filter_append] <;> rw [show (List.replicate n (0 : Int)).filter (fun a => decide (1 ≤ a)) = [] from this] <;> simp
theorem sd_cls {s : List (Int × Int)} (st : Sd s) : ∀ x ∈ cls s, 1 ≤ x ∧ x ≤ 3 := fun x hx => by
  obtain ⟨p, hp, rfl⟩ := List.mem_map.mp hx
  exact st.b p hp
/-- the ahead run keeps the colours' tableau -/
theorem ran_k {l : Int} (hl : 0 < l) {s : List (Int × Int)} (st : Sd s) : K (cls s) (cls (ranS true l s)) := by
  obtain ⟨A, B, h⟩ := window s
  have t1 := ran_sd st true hl
  have p1 := ran_pl true hl st h
  obtain ⟨n, hn⟩ : ∃ n : Nat, B + 40 < (A - 40) + (n : Int) := ⟨(B - A + 100).toNat, by omega⟩
  have w1 : wn (ranS true l s) (A - 40) n = wX true [l, 0, 0, 0] (wn s (A - 40) n) := word_run true hl st (a := A - 40) (fun q hq => by have := h q hq; omega) n
  have f1 : wHX true [l, 0, 0, 0] (wn s (A - 40) n) = [l, 0, 0, 0] := word_fin true hl st (a := A - 40) (fun q hq => by have := h q hq; omega) (fun q hq => by have := h q hq; omega)
  rw [wX_true] at w1
  rw [wHX_true] at f1
  obtain ⟨F, f, k⟩ := run_k (wn s (A - 40) n) (car0 hl) (wn_L4 st _ _)
  rw [f1] at f
  rw [car_uniq f (car0 hl), List.reverse_replicate] at k
  have k := k.cut 1
  have z1 := (cols_zeros l.toNat (wn s (A - 40) n)).1
  have z2 := (cols_zeros l.toNat (wO [l, 0, 0, 0] (wn s (A - 40) n))).2
  have k : K (cols (List.replicate l.toNat 0 ++ wn s (A - 40) n)) (cols (wO [l, 0, 0, 0] (wn s (A - 40) n) ++ List.replicate l.toNat 0)) := k
  rw [z1, z2, ← w1, cols_wn n (bal_of st fun q hq => by have := h q hq; omega) (fun q hq => by have := h q hq; omega), cols_wn n (bal_of t1 fun q hq => by have := p1 q hq; omega) (fun q hq => by have := p1 q hq; omega)] at k
  exact k
theorem ran_raise {l : Int} (hl : 0 < l) {s : List (Int × Int)} (st : Sd s) {i : Int} (hi : 1 ≤ i ∧ i ≤ 2) {c : List Int} (e : raise (cls s) i = some c) :
    Sd (wth s c) ∧ ∃ d, raise (cls (ranS true l s)) i = some d ∧ ranS true l (wth s c) = wth (ranS true l s) d := by
  obtain ⟨A, B, h⟩ := window s
  have t1 := ran_sd st true hl
  have p1 := ran_pl true hl st h
  obtain ⟨n, hn⟩ : ∃ n : Nat, B + 40 < (A - 40) + (n : Int) := ⟨(B - A + 100).toNat, by omega⟩
  have sc : Sd (wth s c) := wth_sd st fun x hx => by
    rcases (raise_mem i e).2 x hx with w | w
    · exact sd_cls st x w
    · omega
  have hc : Pl4 (wth s c) A B := fun q hq => by
    obtain ⟨p, a, b, -⟩ := wth_pl hq
    have := h p a
    omega
  have t2 := ran_sd sc true hl
  have p2 := ran_pl true hl sc hc
  have Bs : Bal s (A - 40) := bal_of st fun q hq => by have := h q hq; omega
  have Bt : Bal (ranS true l s) (A - 40) := bal_of t1 fun q hq => by have := p1 q hq; omega
  have Bt2 : Bal (ranS true l (wth s c)) (A - 40) := bal_of t2 fun q hq => by have := p2 q hq; omega
  have cw := cols_wn n Bs fun q hq => by have := h q hq; omega
  have w4 := wn_L4 st (A - 40) n
  have w0 : ∀ a ∈ wn s (A - 40) n, 0 ≤ a := fun a ha => (w4 a ha).1
  obtain ⟨u, hu⟩ : ∃ u, raise (wn s (A - 40) n) i = some u := by
    cases r : raise (wn s (A - 40) n) i with
    | some u => exact ⟨u, rfl⟩
    | none =>
      have := (raise_ep i _).mp r
      rw [← (ep_cols hi.1 w0).1, cw] at this
      rw [(raise_ep i _).mpr this] at e
      simp at e
  obtain ⟨r1, r2⟩ := raise_cols hi.1 w0 hu
  rw [cw, e] at r1
  have r1 : c = cols u := Option.some.inj r1
  have u4 : L4 u := fun x hx => by
    rcases (raise_mem i hu).2 x hx with w | w
    · exact w4 x w
    · omega
  have wu : wn (wth s c) (A - 40) n = u := by
    rw [r1]
    exact wn_wth n Bs (fun q hq => by have := h q hq; omega) r2 fun x hx => (u4 x hx).1
  have w1 : wn (ranS true l s) (A - 40) n = wX true [l, 0, 0, 0] (wn s (A - 40) n) := word_run true hl st (a := A - 40) (fun q hq => by have := h q hq; omega) n
  have f1 : wHX true [l, 0, 0, 0] (wn s (A - 40) n) = [l, 0, 0, 0] := word_fin true hl st (a := A - 40) (fun q hq => by have := h q hq; omega) (fun q hq => by have := h q hq; omega)
  have w2 : wn (ranS true l (wth s c)) (A - 40) n = wX true [l, 0, 0, 0] (wn (wth s c) (A - 40) n) := word_run true hl sc (a := A - 40) (fun q hq => by have := hc q hq; omega) n
  have f2 : wHX true [l, 0, 0, 0] (wn (wth s c) (A - 40) n) = [l, 0, 0, 0] := word_fin true hl sc (a := A - 40) (fun q hq => by have := hc q hq; omega) (fun q hq => by have := hc q hq; omega)
  rw [wX_true] at w1 w2
  rw [wHX_true] at f1 f2
  rw [wu] at w2 f2
  obtain ⟨F, F1, g, g1, -, -, rr⟩ := run_raise (wn s (A - 40) n) u (car0 hl) (car0 hl) rfl (raise_len hu).symm w4 u4 (by
    rw [List.reverse_replicate, raise_zeros hi.1, hu]
    rfl)
  rw [f1] at g
  rw [f2] at g1
  rw [car_uniq g (car0 hl), car_uniq g1 (car0 hl), List.reverse_replicate, ← w1, ← w2, raise_app, (ep_zeros hi.1 _).1, if_neg (Nat.not_lt_zero _)] at rr
  obtain ⟨v, rv, ev⟩ := Option.map_eq_some_iff.mp rr
  have ev := List.append_cancel_right ev
  rw [ev] at rv
  have t0 : ∀ a ∈ wn (ranS true l s) (A - 40) n, 0 ≤ a := fun a ha => (wn_L4 t1 _ _ a ha).1
  have t02 : ∀ a ∈ wn (ranS true l (wth s c)) (A - 40) n, 0 ≤ a := fun a ha => (wn_L4 t2 _ _ a ha).1
  obtain ⟨q1, q2⟩ := raise_cols hi.1 t0 rv
  have ct := cols_wn n Bt fun q hq => by have := p1 q hq; omega
  have ct2 := cols_wn n Bt2 fun q hq => by have := p2 q hq; omega
  have fin := wn_wth n Bt (fun q hq => by have := p1 q hq; omega) q2 t02
  rw [ct2] at q1 fin
  rw [ct] at q1
  refine ⟨sc, _, q1, ?_⟩
  refine wn_inj t2 (wth_sd t1 (sd_cls t2)) (a := A - 40) (n := n) (fun q hq => by have := p2 q hq; omega) (fun q hq => ?_) fin.symm
  obtain ⟨p, a, b, -⟩ := wth_pl hq
  have := p1 p a
  omega
/-! both ways, up and down -/
theorem ran_kb (b : Bool) {l : Int} (hl : 0 < l) {s : List (Int × Int)} (st : Sd s) : K (cls s) (cls (ranS b l s)) := by
  cases b
  · have := ran_k hl (ran_sd st false hl)
    rw [undo_f hl st] at this
    exact this.symm
  · exact ran_k hl st
theorem cls_len (s : List (Int × Int)) : (cls s).length = s.length := List.length_map _
theorem raise_b (b : Bool) {l : Int} (hl : 0 < l) {s : List (Int × Int)} (st : Sd s) {i : Int} (hi : 1 ≤ i ∧ i ≤ 2) {c : List Int} (e : raise (cls s) i = some c) :
    Sd (wth s c) ∧ ∃ d, raise (cls (ranS b l s)) i = some d ∧ ranS b l (wth s c) = wth (ranS b l s) d := by
  cases b
  · have t := ran_sd st false hl
    have un := undo_f hl st
    have k := (ran_kb false hl st).raise i
    rw [e] at k
    rcases k with ⟨k1, -⟩ | ⟨-, d, -, k2, -⟩
    · simp at k1
    obtain ⟨sd, d', e1, e2⟩ := ran_raise hl t hi k2
    rw [un] at e1 e2
    rw [e] at e1
    obtain rfl := Option.some.inj e1
    refine ⟨(ran_raise hl st hi e).1, d, k2, ?_⟩
    rw [← e2, undo_t hl sd]
  · exact ran_raise hl st hi e
theorem lower_mem (i : Int) : ∀ {w u : List Int}, lower w i = some u → ∀ a ∈ u, a ∈ w ∨ a = i + 1
  | [], u, h => by simp [lower, upr, ug] at h
  | a :: w, u, h => by
    rw [lower_cons] at h
    by_cases q : ep w i < (if a = i then 1 else 0)
    · rw [if_pos q] at h
      obtain rfl : (i + 1) :: w = u := by simpa using h
      intro x hx
      rcases List.mem_cons.mp hx with rfl | hx
      · exact .inr rfl
      · exact .inl (List.mem_cons_of_mem _ hx)
    · rw [if_neg q] at h
      cases r : lower w i with
      | none => rw [r] at h; simp at h
      | some v =>
        rw [r] at h
        obtain rfl : a :: v = u := by simpa using h
        intro x hx
        rcases List.mem_cons.mp hx with rfl | hx
        · exact .inl List.mem_cons_self
        · rcases lower_mem i r x hx with w | w
          · exact .inl (List.mem_cons_of_mem _ w)
          · exact .inr w
theorem lower_b (b : Bool) {l : Int} (hl : 0 < l) {s : List (Int × Int)} (st : Sd s) {i : Int} (hi : 1 ≤ i ∧ i ≤ 2) {c : List Int} (e : lower (cls s) i = some c) :
    Sd (wth s c) ∧ ∃ d, lower (cls (ranS b l s)) i = some d ∧ ranS b l (wth s c) = wth (ranS b l s) d := by
  have sc : Sd (wth s c) := wth_sd st fun x hx => by
    rcases lower_mem i e x hx with w | w
    · exact sd_cls st x w
    · omega
  obtain ⟨b1, -, -, b4⟩ := lower_back i e
  have cl : c.length = s.length := by rw [b4, cls_len]
  have rc : raise (cls (wth s c)) i = some (cls s) := by rw [wth_cls cl, b1]
  obtain ⟨-, d, e1, e2⟩ := raise_b b hl sc hi rc
  rw [wth_wth s c _ cl, wth_self] at e2
  have dl : d.length = (ranS b l (wth s c)).length := by rw [raise_len e1, cls_len]
  refine ⟨sc, cls (ranS b l (wth s c)), ?_, ?_⟩
  · rw [e2, wth_cls dl]
    exact (raise_back i e1).1
  · rw [e2, wth_wth _ _ _ dl, wth_self]
theorem st_b (up b : Bool) {l : Int} (hl : 0 < l) {s : List (Int × Int)} (st : Sd s) {i : Int} (hi : 1 ≤ i ∧ i ≤ 2) :
    (stW up (cls s) i = none ∧ stW up (cls (ranS b l s)) i = none) ∨ ∃ c d, stW up (cls s) i = some c ∧ stW up (cls (ranS b l s)) i = some d ∧ c.length = s.length ∧ d.length = (ranS b l s).length ∧ Sd (wth s c) ∧ ranS b l (wth s c) = wth (ranS b l s) d := by
  have k := ran_kb b hl st
  cases up
  · rcases k.lower i with ⟨k1, k2⟩ | ⟨c, d', k1, k2, -⟩
    · exact .inl ⟨k1, k2⟩
    · obtain ⟨sc, d, e1, e2⟩ := lower_b b hl st hi k1
      exact .inr ⟨c, d, k1, e1, by rw [(lower_back i k1).2.2.2, cls_len], by rw [(lower_back i e1).2.2.2, cls_len], sc, e2⟩
  · rcases k.raise i with ⟨k1, k2⟩ | ⟨c, d', k1, k2, -⟩
    · exact .inl ⟨k1, k2⟩
    · obtain ⟨sc, d, e1, e2⟩ := raise_b b hl st hi k1
      exact .inr ⟨c, d, k1, e1, by rw [raise_len k1, cls_len], by rw [raise_len e1, cls_len], sc, e2⟩
end DL
namespace DL
open PySem L2
/-- balls before the place p -/
structure PrA (A : Int) (s : List (Int × Int)) (p : Int) : Prop where
  b : ∀ q ∈ s, (A ≤ q.1 ∧ q.1 < p) ∧ (1 ≤ q.2 ∧ q.2 ≤ 3)
  a : s.Pairwise (fun p q => p.1 < q.1)
theorem prA_snoc {A : Int} {s : List (Int × Int)} {p p' v : Int} (h : PrA A s p) (h0 : A ≤ p) (h1 : p < p') (hv : 1 ≤ v ∧ v ≤ 3)   : PrA A (s ++ [(p, v)]) p' := ⟨fun q hq => by
  rcases List.mem_append.mp hq with hq | hq
  · have := h.b q hq
    omega
  · cases List.mem_singleton.mp hq
    exact ⟨⟨h0, h1⟩, hv⟩, by
  rw [List.pairwise_append]
  refine ⟨h.a, by simp, fun a ha b hb => ?_⟩
  cases List.mem_singleton.mp hb
  exact (h.b a ha).1.2⟩
theorem st_loopA {A : Int} (M : Option DV) {near : Int} (hn : 2 ≤ near ∧ near ≤ 9) {cs : List Int} (h1 : 1 ≤ cs.length ∧ cs.length ≤ 5) (hc : ∀ i ∈ cs, 1 ≤ i ∧ i ≤ 3) : ∀ (m : Nat) (lo : Int) (s : List (Int × Int)) (p : Int) (c : Cell) (d6 : Option DV), St2 c → PrA A s p → A ≤ p → s.length + m ≤ 900 →
    ∃ s' p' c' d6', St2 c' ∧ PrA A s' p' ∧ p' ≤ p + (m : Int) * 100009 ∧ s'.length = s.length + m ∧ forGo ckT (.nm 6) L0_law_standing (rangeI lo m) [some (.c 1), M, some (.p (.int near)), some (.p (.lst (cs.map PV.int))), some (.p (.int p)), some (.c 2), d6] [T, c, .lst (s.map bV)] = .nx [some (.c 1), M, some (.p (.int near)), some (.p (.lst (cs.map PV.int))), some (.p (.int p')), some (.c 2), d6'] [T, c', .lst (s'.map bV)]
  | 0, lo, s, p, c, d6, hs, hp, h0, hz => ⟨s, p, c, d6, hs, hp, by omega, by simp, for_nil⟩
  | m + 1, lo, s, p, c, d6, hs, hp, h0, hz => by
    obtain ⟨v, p1, c1, hs1, hv, hp1, e1⟩ := st_turn M (some (.p (.int lo))) (p := p) hn h1 hc (s := s) (by omega) hs
    obtain ⟨s', p', c', d6', a1, a2, a3, a4, e2⟩ := st_loopA M hn h1 hc m (lo + 1) (s ++ [(p, v)]) p1 c1 (some (.p (.int lo))) hs1 (prA_snoc hp h0 hp1.1 hv) (by omega) (by simp; omega)
    refine ⟨s', p', c', d6', a1, a2, by omega, by rw [a4]; simp; omega, ?_⟩
    rw [range_succ, for_nm]
    simp only [List.set_cons_succ, List.set_cons_zero]
    rw [e1, after_nx, e2]
theorem lstandA_ok {c : Cell} (hs : St2 c) : ∃ s c' p, St2 c' ∧ Std s ∧ Pl4 s p (p + 1300000) ∧ d_law_standing [.c 1, .p (.int 12)] [T, c] = .ok (.p (sV s)) [T, c'] := by
  obtain ⟨i1, c1, hc1, hi1, t1⟩ := take_ok hs (m := 3) [] (by omega) (by omega)
  obtain ⟨near, hn, e1⟩ : ∃ near : Int, (2 ≤ near ∧ near ≤ 9) ∧ ∀ S : AH, ixO (.p (.lst [.int 2, .int 4, .int 9])) (.p (.int i1)) S = some (.p (.int near), S) := by
    have : i1 = 0 ∨ i1 = 1 ∨ i1 = 2 := by omega
    rcases this with rfl | rfl | rfl
    · exact ⟨2, by decide, fun S => ixO_lst rfl⟩
    · exact ⟨4, by decide, fun S => ixO_lst rfl⟩
    · exact ⟨9, by decide, fun S => ixO_lst rfl⟩
  obtain ⟨i2, c2, hc2, hi2, t2⟩ := take_ok hc1 (m := 5) [] (by omega) (by omega)
  obtain ⟨cs, hcs, e2⟩ : ∃ cs : List Int, ((1 ≤ cs.length ∧ cs.length ≤ 5) ∧ ∀ i ∈ cs, 1 ≤ i ∧ i ≤ 3) ∧ ∀ S : AH, ixO (.p (.lst [.lst [.int 1], .lst [.int 1, .int 2], .lst [.int 1, .int 2, .int 3], .lst [.int 2, .int 3, .int 1, .int 1, .int 2], .lst [.int 3, .int 1]])) (.p (.int i2)) S = some (.p (.lst (cs.map PV.int)), S) := by
    have : i2 = 0 ∨ i2 = 1 ∨ i2 = 2 ∨ i2 = 3 ∨ i2 = 4 := by omega
    rcases this with rfl | rfl | rfl | rfl | rfl
    · exact ⟨[1], by decide, fun S => ixO_lst rfl⟩
    · exact ⟨[1, 2], by decide, fun S => ixO_lst rfl⟩
    · exact ⟨[1, 2, 3], by decide, fun S => ixO_lst rfl⟩
    · exact ⟨[2, 3, 1, 1, 2], by decide, fun S => ixO_lst rfl⟩
    · exact ⟨[3, 1], by decide, fun S => ixO_lst rfl⟩
  obtain ⟨i3, c3, hc3, hi3, t3⟩ := take_ok hc2 (m := 41) [] (by omega) (by omega)
  obtain ⟨i4, c4, hc4, hi4, t4⟩ := take_ok hc3 (m := 4) [] (by omega) (by omega)
  obtain ⟨p, hp, e4⟩ : ∃ p : Int, (-1000000000000 ≤ p ∧ p ≤ 1000000000000 - 10000000) ∧ ∀ S : AH, ixO (.p (.lst [.int 0, .int (i3 - 20), .int (-1000000000000), .int 999990000000])) (.p (.int i4)) S = some (.p (.int p), S) := by
    have : i4 = 0 ∨ i4 = 1 ∨ i4 = 2 ∨ i4 = 3 := by omega
    rcases this with rfl | rfl | rfl | rfl
    · exact ⟨_, by decide, fun S => ixO_lst rfl⟩
    · exact ⟨i3 - 20, by omega, fun S => ixO_lst rfl⟩
    · exact ⟨_, by decide, fun S => ixO_lst rfl⟩
    · exact ⟨_, by decide, fun S => ixO_lst rfl⟩
  obtain ⟨m, c5, hc5, hm, t5⟩ := take_ok hc4 (m := 13) [.lst []] (by omega) (by omega)
  obtain ⟨k, rfl⟩ : ∃ k : Nat, m = (k : Int) := ⟨m.toNat, by omega⟩
  obtain ⟨s, p', c6, d6, a1, a2, a3, a4, lo⟩ := st_loopA (A := p) (some (.p (.int 12))) hn hcs.1 hcs.2 k 0 [] p c5 none hc5 ⟨by simp, by simp⟩ (Int.le_refl _) (by simp; omega)
  rw [List.map_nil] at lo
  have a4' : s.length = k := by simpa using a4
  refine ⟨s, c6, p, a1, ⟨by omega, fun q hq => by have := a2.b q hq; omega, a2.a⟩, fun q hq => by have := a2.b q hq; omega, ?_⟩
  obtain ⟨y0, z0, rfl⟩ := hs
  obtain ⟨y6, z6, rfl⟩ := a1
  have tc := tupleO_c (n := 2) (S := [T, .lst [.int y6, .int z6], .lst (s.map bV)]) (xs := s.map bV) rfl
  simp [-List.map_map, d_law_standing, b_law_standing_, p10_12, p10_7, t1, e1, t2, e2, t3, t4, e4, t5, rg_len k (by omega), lo, tc, sV]
end DL
namespace DL
open PySem L2
theorem lroom_ok {c : Cell} (hs : St2 c) (R : AH) : ∃ l c', St2 c' ∧ (1 ≤ l ∧ l ≤ 1000) ∧ d_law_room [.c 1] (T :: c :: R) = .ok (.p (.int l)) (T :: c' :: R) := by
  obtain ⟨i1, c1, hc1, hi1, t1⟩ := take_ok hs (m := 4) R (by omega) (by omega)
  obtain ⟨i2, c2, hc2, hi2, t2⟩ := take_ok hc1 (m := 13) R (by omega) (by omega)
  obtain ⟨i3, c3, hc3, hi3, t3⟩ := take_ok hc2 (m := 1000) R (by omega) (by omega)
  obtain ⟨i4, c4, hc4, hi4, t4⟩ := take_ok hc3 (m := 4) R (by omega) (by omega)
  obtain ⟨l, hl, e4⟩ : ∃ l : Int, (1 ≤ l ∧ l ≤ 1000) ∧ ∀ S : AH, ixO (.p (.lst [.int (1 + i1), .int (1 + i2), .int (1 + i3), .int 1000])) (.p (.int i4)) S = some (.p (.int l), S) := by
    have : i4 = 0 ∨ i4 = 1 ∨ i4 = 2 ∨ i4 = 3 := by omega
    rcases this with rfl | rfl | rfl | rfl
    · exact ⟨1 + i1, by omega, fun S => ixO_lst rfl⟩
    · exact ⟨1 + i2, by omega, fun S => ixO_lst rfl⟩
    · exact ⟨1 + i3, by omega, fun S => ixO_lst rfl⟩
    · exact ⟨1000, by omega, fun S => ixO_lst rfl⟩
  refine ⟨l, c4, hc4, hl, ?_⟩
  have ok : ∀ a b : Int, okC ((T :: c :: R).length) (T :: .lst [.int a, .int b] :: R) (T :: .lst [.int a, .int b] :: R) := fun a b => okC_self _ _
  obtain ⟨a, b, rfl⟩ := hs
  obtain ⟨a', b', rfl⟩ := hc4
  refine (dDef_ap rfl).trans ?_
  have body : b_law_room_ [some (.c 1)] (T :: .lst [.int a, .int b] :: R) = .rt (.p (.int l)) (T :: .lst [.int a', .int b'] :: R) := by
    simp [b_law_room_, t1, t2, t3, t4, e4]
  show gcK _ false (b_law_room_ [some (.c 1)] _) = _
  rw [body, gc_rt (by simp [okc])]
  simp
theorem pn_sV {s : List (Int × Int)} (h : s.length ≤ 20000) : Pn 2 (sV s) := ⟨by rw [List.length_map]; exact h, fun x hx => by
  obtain ⟨p, _, rfl⟩ := List.mem_map.mp hx
  exact ⟨by simp, fun y hy => by
    rcases List.mem_cons.mp hy with rfl | hy
    · exact pn_int
    · rcases List.mem_cons.mp hy with rfl | hy
      · exact pn_int
      · cases hy⟩⟩
theorem plain_sV {s : List (Int × Int)} (h : s.length ≤ 20000) (S : AH) : d_law_plain 8 [.p (sV s)] S = .ok (.p (sV s)) S := plain_pn (pn_sV h) 8 (by decide) S
theorem fit_bV (p : Int × Int) : (bV p).fit 1 := fit_ints [p.1, p.2]
theorem fit_sV (s : List (Int × Int)) : (sV s).fit 2 := fun x hx => by
  obtain ⟨p, _, rfl⟩ := List.mem_map.mp hx
  exact fit_bV p
theorem ne_sV (s : List (Int × Int)) (S : AH) : neO (.p (sV s)) (.p (sV s)) S = some (.p (.bl false), S) := neO_self (fit_sV s) (by decide)
def dlN (D : PV) (s : List (Int × Int)) : Sig := [some (.p D), some (.c 1), some (.p (sV s)), none, none, none, none, none, none, none, none, none, none, none, none, none, none]
/-- a standing that is moved to 0 if it is far away -/
structure Nr (s : List (Int × Int)) : Prop where
  st : Std s
  pl : Pl4 s (-200000000000) 200000000000
theorem p10_11 (S : AH) : powO (.p (.int 10)) (.p (.int 11)) S = some (.p (.int 100000000000), S) := powO_int ⟨by decide, by decide, by decide⟩
theorem nrm (D : PV) {s : List (Int × Int)} (st : Std s) {A : Int} (h : Pl4 s A (A + 1300000)) (S : AH) : ∃ s', Nr s' ∧ (dIf (dAnd (blOf (dBin gtO (dApp lenO (dCons (dVar 2) dNil)) (dC (.int 0)))) (blOf (dBin gtO (dApp absO (dCons (dBin ixO (dBin ixO (dVar 2) (dC (.int 0))) (dC (.int 0))) dNil)) (dBin powO (dC (.int 10)) (dC (.int 11)))))) (dSet 2 (dApp tupleO (dCons (dVal (dLc (dSeqI (dVar 2)) (.tp [(.nm 3), (.nm 4)]) dYes (dTup (dCons (dBin subO (dVar 3) (dBin ixO (dBin ixO (dVar 2) (dC (.int 0))) (dC (.int 0)))) (dCons (dVar 4) dNil))) [3, 4])) dNil))) dPass) (dlN D s) S = .nx (dlN D s') S := by
  cases s with
  | nil =>
    refine ⟨[], ⟨st, fun q hq => absurd hq List.not_mem_nil⟩, ?_⟩
    simp [dlN, sV]
  | cons r s =>
    obtain ⟨p, c⟩ := r
    have hp := h (p, c) List.mem_cons_self
    have sp := st.b (p, c) List.mem_cons_self
    simp only at hp sp
    have ln : ∀ S, lenO [.p (sV ((p, c) :: s))] S = some (.p (.int ((((p, c) :: s).length : Nat) : Int)), S) := fun S => by
      show some (DV.p (.int ((((p, c) :: s).map bV).length : Nat)), S) = _
      rw [List.length_map]
    have lp : (0 : Int) < ((((p, c) :: s).length : Nat) : Int) := by rw [List.length_cons]; omega
    have i0 : ∀ S, ixO (.p (sV ((p, c) :: s))) (.p (.int 0)) S = some (.p (bV (p, c)), S) := fun S => ixO_tup (atI_at (by decide) rfl)
    have i1 := fun S : AH => at0 (.int p) [.int c] S
    have p11 := p10_11
    by_cases q : 100000000000 < (if p < 0 then -p else p)
    · refine ⟨((p, c) :: s).map fun q => (q.1 - p, q.2), ⟨⟨by rw [List.length_map]; exact st.l, fun r hr => ?_, ?_⟩, fun r hr => ?_⟩, ?_⟩
      · obtain ⟨r', hr', rfl⟩ := List.mem_map.mp hr
        have h1 := h r' hr'
        have h2 := (st.b r' hr').2
        simp only
        omega
      · rw [List.pairwise_map]
        exact st.a.imp fun {a b} z => by simp only; omega
      · obtain ⟨r', hr', rfl⟩ := List.mem_map.mp hr
        have h1 := h r' hr'
        simp only
        omega
      · have hz2 : (dit (((p, c) :: s).map bV)).length ≤ 16777216 := by rw [dit_len_s]; have := st.l; omega
        have it : dSeqI (dVar 2) (dlN D ((p, c) :: s)) S = .ok (dit (((p, c) :: s).map bV), ckT) S := by
          unfold dlN
          rw [ev_seqI]
          rfl
        have lc : lcGo ckT (.tp [.nm 3, .nm 4]) dYes (dTup (dCons (dBin subO (dVar 3) (dBin ixO (dBin ixO (dVar 2) (dC (.int 0))) (dC (.int 0)))) (dCons (dVar 4) dNil))) (dlN D ((p, c) :: s)) (dit (((p, c) :: s).map bV)) S = .ok ((((p, c) :: s).map fun q => (q.1 - p, q.2)).map bV) S := by
          rw [lc_mapD bV (fun q => bV (q.1 - p, q.2)) ((p, c) :: s) fun q _ => ⟨_, rfl, by
            unfold dlN
            generalize sV ((p, c) :: s) = W at *
            simp [i0, bV, i1]⟩, List.map_map]
          rfl
        have wp : wipeD (dlN D ((p, c) :: s)) [3, 4] = dlN D ((p, c) :: s) := rfl
        have tail : dSet 2 (dApp tupleO (dCons (dVal (dLc (dSeqI (dVar 2)) (.tp [(.nm 3), (.nm 4)]) dYes (dTup (dCons (dBin subO (dVar 3) (dBin ixO (dBin ixO (dVar 2) (dC (.int 0))) (dC (.int 0)))) (dCons (dVar 4) dNil))) [3, 4])) dNil)) (dlN D ((p, c) :: s)) S = .nx (dlN D (((p, c) :: s).map fun q => (q.1 - p, q.2))) S := by
          have hs : sV (((p, c) :: s).map fun q => (q.1 - p, q.2)) = .tup ((((p, c) :: s).map fun q => (q.1 - p, q.2)).map bV) := rfl
          have set2 : ∀ v, (dlN D ((p, c) :: s)).set 2 v = [some (.p D), some (.c 1), v, none, none, none, none, none, none, none, none, none, none, none, none, none, none] := fun v => rfl
          unfold dlN at set2 ⊢
          unfold dlN at it lc wp
          rw [hs]
          generalize (((p, c) :: s).map fun q => (q.1 - p, q.2)).map bV = Z at *
          generalize dit (((p, c) :: s).map bV) = II at *
          generalize sV ((p, c) :: s) = W at *
          simp [-ev_seqI, it, ev_kLc hz2, wp, lc]
        rw [ev_if]
        have cnd : (dAnd (blOf (dBin gtO (dApp lenO (dCons (dVar 2) dNil)) (dC (.int 0)))) (blOf (dBin gtO (dApp absO (dCons (dBin ixO (dBin ixO (dVar 2) (dC (.int 0))) (dC (.int 0))) dNil)) (dBin powO (dC (.int 10)) (dC (.int 11)))))) (dlN D ((p, c) :: s)) S = .ok true S := by
          unfold dlN
          generalize sV ((p, c) :: s) = W at *
          generalize ((((p, c) :: s).length : Nat) : Int) = w at *
          generalize hM : (100000000000 : Int) = M at *
          generalize hab : (if p < 0 then -p else p) = ab at *
          simp [ln, lp, i0, bV, i1, p11, hab, q]
        rw [cnd, out_ok]
        exact tail
    · refine ⟨(p, c) :: s, ⟨st, fun r hr => ?_⟩, ?_⟩
      · have h1 := h r hr
        have : -100000000000 ≤ p ∧ p ≤ 100000000000 := by split at q <;> omega
        omega
      · rw [ev_if]
        have cnd : (dAnd (blOf (dBin gtO (dApp lenO (dCons (dVar 2) dNil)) (dC (.int 0)))) (blOf (dBin gtO (dApp absO (dCons (dBin ixO (dBin ixO (dVar 2) (dC (.int 0))) (dC (.int 0))) dNil)) (dBin powO (dC (.int 10)) (dC (.int 11)))))) (dlN D ((p, c) :: s)) S = .ok false S := by
          unfold dlN
          generalize sV ((p, c) :: s) = W at *
          generalize ((((p, c) :: s).length : Nat) : Int) = w at *
          generalize hM : (100000000000 : Int) = M at *
          generalize hab : (if p < 0 then -p else p) = ab at *
          simp [ln, lp, i0, bV, i1, p11, hab, q]
        rw [cnd, out_ok]
        simp
theorem pl_s {s : List (Int × Int)} (h : Sd s) (S : AH) : d_law_plain 8 [.p (sV s)] S = .ok (.p (sV s)) S := plain_sV (by have := h.l; omega) S
/-- a standing after j runs -/
structure Jn (s : List (Int × Int)) (j : Int) : Prop where
  st : Sd s
  pl : Pl4 s (-(200000000000 + 12 * j)) (200000000000 + 12 * j)
theorem Jn.std {s : List (Int × Int)} {j : Int} (h : Jn s j) (hj : j ≤ 1000) : Std s := ⟨h.st.l, fun q hq => ⟨by have := h.pl q hq; omega, h.st.b q hq⟩, h.st.a⟩
theorem Jn.ran {s : List (Int × Int)} {j : Int} (h : Jn s j) (b : Bool) {l : Int} (hl : 0 < l) : Jn (ranS b l s) (j + 1) := ⟨ran_sd h.st b hl, fun q hq => by have := ran_pl b hl h.st h.pl q hq; omega⟩
theorem Jn.wth {s : List (Int × Int)} {j : Int} (h : Jn s j) {c : List Int} (hc : Sd (wth s c)) : Jn (DL.wth s c) j := ⟨hc, fun q hq => by
  obtain ⟨p, a, b, -⟩ := wth_pl hq
  have := h.pl p a
  omega⟩
theorem fit_tb (w : List Int) : (tbV w).fit 2 := fun x hx => by
  obtain ⟨r, hr, rfl⟩ := List.mem_map.mp hx
  obtain ⟨q, _, rfl⟩ := List.mem_map.mp hr
  exact fit_ints q
theorem ne_tb (w : List Int) (S : AH) : neO (.p (tbV w)) (.p (tbV w)) S = some (.p (.bl false), S) := neO_self (fit_tb w) (by decide)
theorem tb_eq {u v : List Int} (h : K u v) : tbV u = tbV v := by unfold tbV; rw [h.pL]
theorem ne_bl (b : Bool) (S : AH) : neO (.p (.bl b)) (.p (.bl b)) S = some (.p (.bl false), S) := neO_self (n := 1) trivial (by decide)
/-- the places with other colours, as the law makes them -/
theorem wth_rng {s : List (Int × Int)} {c : List Int} (h : c.length = s.length) : ((List.range s.length).map fun (k : Nat) => bV ((s.getD k (0, 0)).1, c.getD k 0)) = (wth s c).map bV := by
  refine List.ext_getElem (by rw [List.length_map, List.length_range, List.length_map, wth_len h]) fun i h1 h2 => ?_
  have hi : i < s.length := by simpa using h1
  have hc : i < c.length := by omega
  simp [wth, List.getD, hi, hc]
abbrev lv (D : PV) (s : List (Int × Int)) (P : PV) (t v7 v8 v9 v10 v11 v12 v13 v14 v15 v16 : Option DV) : Sig := [some (.p D), some (.c 1), some (.p (sV s)), none, none, some (.p P), t, v7, v8, v9, v10, v11, v12, v13, v14, v15, v16]
theorem lc_other {s : List (Int × Int)} (hs : s.length ≤ 12) {c : List Int} (hc : c.length = s.length) {δ : Sig} (a b : Nat) (h1 : ∀ x, (δ.set 15 x)[a]? = some (some (.p (sV s)))) (h2 : ∀ x, (δ.set 15 x)[b]? = some (some (.p (tupI c)))) (h3 : ∀ x, (δ.set 15 x)[15]? = some x) (S : AH) :
    lcGo ckT (.nm 15) dYes (dTup (dCons (dBin ixO (dBin ixO (dVar a) (dVar 15)) (dC (.int 0))) (dCons (dBin ixO (dVar b) (dVar 15)) dNil))) δ (rangeI 0 s.length) S = .ok ((wth s c).map bV) S := by
  rw [lc_rmap (fun (k : Nat) => bV ((s.getD k (0, 0)).1, c.getD k 0)) (fun k hk => ?_), wth_rng hc]
  have i1 : ∀ S : AH, ixO (.p (sV s)) (.p (.int (k : Int))) S = some (.p (bV s[k]), S) := fun S => ixO_tup (by rw [atI_nat (by simpa using hk)]; simp [List.getD, hk])
  have i2 : ∀ S : AH, ixO (.p (tupI c)) (.p (.int (k : Int))) S = some (.p (.int (c[k]'(by omega))), S) := fun S => ixO_tup (by
    have hk' : k < c.length := by omega
    rw [atI_nat (by simpa using hk')]; simp [List.getD, hk'])
  have i3 : ∀ S : AH, ixO (.p (bV s[k])) (.p (.int 0)) S = some (.p (.int s[k].1), S) := fun S => ixO_tup (atI_at (by decide) rfl)
  rw [show (0 : Int) + (k : Int) = (k : Int) by omega]
  have g1 : (s.getD k (0, 0)).1 = s[k].1 := by simp [List.getD, hk]
  have g2 : c.getD k 0 = c[k]'(by omega) := by
    have hk' : k < c.length := by omega
    simp [List.getD, hk']
  rw [g1, g2]
  have va : dVar a (δ.set 15 (some (.p (.int (k : Int))))) S = .ok (.p (sV s)) S := by unfold dVar; rw [h1]
  have vb : dVar b (δ.set 15 (some (.p (.int (k : Int))))) S = .ok (.p (tupI c)) S := by unfold dVar; rw [h2]
  have vk : dVar 15 (δ.set 15 (some (.p (.int (k : Int))))) S = .ok (.p (.int (k : Int))) S := by unfold dVar; rw [h3]
  show _ = Res.ok (DV.p (.tup [.int s[k].1, .int (c[k]'(by omega))])) S
  generalize sV s = W at *
  generalize tupI c = W2 at *
  simp [h1, h2, h3, i1, i2, i3]
/-- one turn -/
theorem one_turn (D : PV) {s : List (Int × Int)} {j : Int} (h : Jn s j) (hj : j ≤ 900) {c : Cell} (hc : St2 c) (t v7 v8 v9 v10 v11 v12 v13 v14 v15 v16 : Option DV) :
    ∃ s' c' w7 w8 w9 w10 w11 w12 w13 w14 w15 w16, Jn s' (j + 1) ∧ St2 c' ∧ tbV (cls s') = tbV (cls s) ∧
      L0_law (lv D s (tbV (cls s)) t v7 v8 v9 v10 v11 v12 v13 v14 v15 v16) [T, c] = .nx (lv D s' (tbV (cls s)) t w7 w8 w9 w10 w11 w12 w13 w14 w15 w16) [T, c'] := by
  obtain ⟨l, c1, hc1, hl, t1⟩ := lroom_ok hc []
  obtain ⟨k3, c2, hc2, hk3, t2⟩ := take_ok hc1 (m := 3) [] (by omega) (by omega)
  obtain ⟨i0, c3, hc3, hi0, t3⟩ := take_ok hc2 (m := 2) [] (by omega) (by omega)
  obtain ⟨u0, c4, hc4, hu0, t4⟩ := take_ok hc3 (m := 2) [] (by omega) (by omega)
  obtain ⟨b, hb⟩ : ∃ b : Bool, decide (0 < k3) = b := ⟨_, rfl⟩
  obtain ⟨up, hup⟩ : ∃ up : Bool, decide (u0 = 0) = up := ⟨_, rfl⟩
  have hl0 : 0 < l := by omega
  have hr := h.ran b hl0
  have ss := h.std (by omega)
  have rs := hr.std (by omega)
  have kk := tb_eq (ran_kb b hl0 h.st)
  have cs := colours_ok ss
  have cr := colours_ok rs
  have ps : ∀ S, d_law_plain 8 [.p (tupI (s.map (·.2)))] S = .ok (.p (tupI (s.map (·.2)))) S := fun S => plain_pn (n := 1) (pn_ints (by rw [List.length_map]; have := h.st.l; omega)) 8 (by decide) S
  have pr' : ∀ S, d_law_plain 8 [.p (tupI ((ranS b l s).map (·.2)))] S = .ok (.p (tupI ((ranS b l s).map (·.2)))) S := fun S => plain_pn (n := 1) (pn_ints (by rw [List.length_map]; have := hr.st.l; omega)) 8 (by decide) S
  have tr : ∀ S, d_law_tableau [.p (tupI ((ranS b l s).map (·.2)))] S = .ok (.p (tbV (cls s))) S := fun S => by
    rw [kk]
    exact tab_ok (by rw [List.length_map]; have := hr.st.l; omega) S
  have nt := ne_tb (cls s)
  have so := stepped_ok (w := s.map (·.2)) (by rw [List.length_map]; have := h.st.l; omega) (1 + i0) up
  have sr := stepped_ok (w := (ranS b l s).map (·.2)) (by rw [List.length_map]; have := hr.st.l; omega) (1 + i0) up
  have key := st_b up b hl0 h.st (i := 1 + i0) (by omega)
  have nb := ne_bl
  refine ⟨ranS b l s, c4, some (.p (.int l)), some (.p (.bl b)), some (.p (sV (ranS b l s))), some (.p (.int (1 + i0))), some (.p (.bl up)), some (.p (opv (stW up (s.map (·.2)) (1 + i0)))), some (.p (opv (stW up ((ranS b l s).map (·.2)) (1 + i0)))), ?_⟩
  have s1 : (dPar 7 8 (dCons (dCall d_law_room (dCons (dVar 1) dNil)) (dCons (dBin gtO (dCall d_law_take (dCons (dVar 1) (dCons (dC (.int 3)) dNil))) (dC (.int 0))) dNil))) (lv D s (tbV (cls s)) t v7 v8 v9 v10 v11 v12 v13 v14 v15 v16) [T, c] = .nx (lv D s (tbV (cls s)) t (some (.p (.int l))) (some (.p (.bl b))) v9 v10 v11 v12 v13 v14 v15 v16) [T, c2] := by
    unfold lv
    generalize sV s = W at *
    generalize tbV (cls s) = P at *
    simp [t1, t2, hb]
  have ite9 : ∀ (x : Nat) (δ : Sig) (y : List (Int × Int)) (S : AH), δ[x]? = some (some (.p (sV y))) → δ[8]? = some (some (.p (.bl b))) → δ[7]? = some (some (.p (.int l))) → Jn y j → S[0]? = some T → (dIte (dTru (dVar 8)) (dCall (d_law_plain 8) (dCons (dCall d_carried (dCons (dVar x) (dCons (dVar 7) dNil))) dNil)) (dCall (d_law_plain 8) (dCons (dCall d_carried_back (dCons (dVar x) (dCons (dVar 7) dNil))) dNil))) δ S = .ok (.p (sV (ranS b l y))) S := fun x δ y S e1 e2 e3 hy h0 => by
    have v1 : dVar x δ S = .ok (.p (sV y)) S := by unfold dVar; rw [e1]
    have v2 : dVar 8 δ S = .ok (.p (.bl b)) S := by unfold dVar; rw [e2]
    have v3 : dVar 7 δ S = .ok (.p (.int l)) S := by unfold dVar; rw [e3]
    have a1 := carried_ok (hy.std (by omega)) hl S h0
    have a2 := carriedB_ok (hy.std (by omega)) hl S h0
    have p1 := pl_s (hy.ran true hl0).st S
    have p2 := pl_s (hy.ran false hl0).st S
    generalize sV y = W at *
    generalize hW1 : sV (ranS true l y) = W1 at *
    generalize hW2 : sV (ranS false l y) = W2 at *
    cases b
    · rw [hW2]; simp [e1, e2, e3, a2, p2]
    · rw [hW1]; simp [e1, e2, e3, a1, p1]
  have s2 : ∀ c, (dSet 9 (dIte (dTru (dVar 8)) (dCall (d_law_plain 8) (dCons (dCall d_carried (dCons (dVar 2) (dCons (dVar 7) dNil))) dNil)) (dCall (d_law_plain 8) (dCons (dCall d_carried_back (dCons (dVar 2) (dCons (dVar 7) dNil))) dNil)))) (lv D s (tbV (cls s)) t (some (.p (.int l))) (some (.p (.bl b))) v9 v10 v11 v12 v13 v14 v15 v16) [T, c] = .nx (lv D s (tbV (cls s)) t (some (.p (.int l))) (some (.p (.bl b))) (some (.p (sV (ranS b l s)))) v10 v11 v12 v13 v14 v15 v16) [T, c] := fun c => by
    have := ite9 2 (lv D s (tbV (cls s)) t (some (.p (.int l))) (some (.p (.bl b))) v9 v10 v11 v12 v13 v14 v15 v16) s [T, c] rfl rfl rfl h rfl
    unfold dSet
    rw [this]
    rfl
  have s3 : ∀ c, (dIf (blOf (dBin neO (dCall d_law_tableau (dCons (dCall (d_law_plain 8) (dCons (dCall d_colours_of (dCons (dVar 9) dNil)) dNil)) dNil)) (dVar 5))) (dRet (dC (.bl false))) dPass) (lv D s (tbV (cls s)) t (some (.p (.int l))) (some (.p (.bl b))) (some (.p (sV (ranS b l s)))) v10 v11 v12 v13 v14 v15 v16) [T, c] = .nx (lv D s (tbV (cls s)) t (some (.p (.int l))) (some (.p (.bl b))) (some (.p (sV (ranS b l s)))) v10 v11 v12 v13 v14 v15 v16) [T, c] := fun c => by
    unfold lv
    generalize sV s = W at *
    generalize sV (ranS b l s) = W1 at *
    generalize tbV (cls s) = P at *
    generalize tupI ((ranS b l s).map (·.2)) = Q at *
    simp [cr, pr', tr, nt]
  have s4 : (dPar 10 11 (dCons (dBin addO (dC (.int 1)) (dCall d_law_take (dCons (dVar 1) (dCons (dC (.int 2)) dNil)))) (dCons (dBin eqO (dCall d_law_take (dCons (dVar 1) (dCons (dC (.int 2)) dNil))) (dC (.int 0))) dNil))) (lv D s (tbV (cls s)) t (some (.p (.int l))) (some (.p (.bl b))) (some (.p (sV (ranS b l s)))) v10 v11 v12 v13 v14 v15 v16) [T, c2] = .nx (lv D s (tbV (cls s)) t (some (.p (.int l))) (some (.p (.bl b))) (some (.p (sV (ranS b l s)))) (some (.p (.int (1 + i0)))) (some (.p (.bl up))) v12 v13 v14 v15 v16) [T, c4] := by
    unfold lv
    generalize sV s = W at *
    generalize sV (ranS b l s) = W1 at *
    generalize tbV (cls s) = P at *
    simp [t3, t4, hup]
  have s5 : ∀ c, (dAsg (.tp [(.nm 12), (.nm 13)]) (dTup (dCons (dCall d_law_stepped (dCons (dCall (d_law_plain 8) (dCons (dCall d_colours_of (dCons (dVar 2) dNil)) dNil)) (dCons (dVar 10) (dCons (dVar 11) dNil)))) (dCons (dCall d_law_stepped (dCons (dCall (d_law_plain 8) (dCons (dCall d_colours_of (dCons (dVar 9) dNil)) dNil)) (dCons (dVar 10) (dCons (dVar 11) dNil)))) dNil)))) (lv D s (tbV (cls s)) t (some (.p (.int l))) (some (.p (.bl b))) (some (.p (sV (ranS b l s)))) (some (.p (.int (1 + i0)))) (some (.p (.bl up))) v12 v13 v14 v15 v16) [T, c] = .nx (lv D s (tbV (cls s)) t (some (.p (.int l))) (some (.p (.bl b))) (some (.p (sV (ranS b l s)))) (some (.p (.int (1 + i0)))) (some (.p (.bl up))) (some (.p (opv (stW up (s.map (·.2)) (1 + i0))))) (some (.p (opv (stW up ((ranS b l s).map (·.2)) (1 + i0))))) v14 v15 v16) [T, c] := fun c => by
    unfold lv
    generalize opv (stW up (s.map (·.2)) (1 + i0)) = O1 at *
    generalize opv (stW up ((ranS b l s).map (·.2)) (1 + i0)) = O2 at *
    generalize sV s = W at *
    generalize sV (ranS b l s) = W1 at *
    generalize tbV (cls s) = P at *
    generalize tupI ((ranS b l s).map (·.2)) = Q at *
    generalize tupI (s.map (·.2)) = Q0 at *
    simp [cs, ps, so, cr, pr', sr, asg2]
  rcases key with ⟨k1, k2⟩ | ⟨x, y, k1, k2, lx, ly, sx, ex⟩
  · have k1 : stW up (s.map (·.2)) (1 + i0) = none := k1
    have k2 : stW up ((ranS b l s).map (·.2)) (1 + i0) = none := k2
    rw [k1, k2] at s5 ⊢
    refine ⟨v14, v15, v16, hr, hc4, kk.symm, ?_⟩
    unfold L0_law
    refine sq_step s1 (sq_step (s2 _) (sq_step (s3 _) (sq_step s4 (sq_step (s5 _) ?_))))
    unfold lv opv
    generalize sV s = W at *
    generalize sV (ranS b l s) = W1 at *
    generalize tbV (cls s) = P at *
    simp [nb]
  · have k1 : stW up (s.map (·.2)) (1 + i0) = some x := k1
    have k2 : stW up ((ranS b l s).map (·.2)) (1 + i0) = some y := k2
    rw [k1, k2] at s5 ⊢
    refine ⟨some (.p (sV (wth s x))), v15, some (.p (sV (ranS b l (wth s x)))), hr, hc4, kk.symm, ?_⟩
    unfold L0_law
    refine sq_step s1 (sq_step (s2 _) (sq_step (s3 _) (sq_step s4 (sq_step (s5 _) ?_))))
    have ln : ∀ {z : List (Int × Int)} (S : AH), lenO [.p (sV z)] S = some (.p (.int (z.length : Int)), S) := fun {z} S => by
      show some (DV.p (.int ((z.map bV).length : Nat)), S) = _
      rw [List.length_map]
    have rg1 := rg_len s.length (by have := h.st.l; omega)
    have rg2 := rg_len (ranS b l s).length (by have := hr.st.l; omega)
    have z1 : (rangeI 0 s.length).length ≤ 16777216 := by rw [rangeI_len]; have := h.st.l; omega
    have z2 : (rangeI 0 (ranS b l s).length).length ≤ 16777216 := by rw [rangeI_len]; have := hr.st.l; omega
    have nx : isO (.p (opv (some x))) (.p .non) = fun S => some (.p (.bl false), S) := rfl
    have ny : isO (.p (opv (some y))) (.p .non) = fun S => some (.p (.bl false), S) := rfl
    have nx' : isNotO (.p (opv (some x))) (.p .non) = fun S => some (.p (.bl true), S) := rfl
    have ox : opv (some x) = tupI x := rfl
    have oy : opv (some y) = tupI y := rfl
    refine sq_step (δ1 := lv D s (tbV (cls s)) t (some (.p (.int l))) (some (.p (.bl b))) (some (.p (sV (ranS b l s)))) (some (.p (.int (1 + i0)))) (some (.p (.bl up))) (some (.p (opv (some x)))) (some (.p (opv (some y)))) v14 v15 v16) (S1 := [T, c4]) (by
      unfold lv
      generalize opv (some x) = O1 at *
      generalize opv (some y) = O2 at *
      generalize sV s = W at *
      generalize sV (ranS b l s) = W1 at *
      generalize tbV (cls s) = P at *
      simp [nx, ny, nb]) ?_
    have g1 : ∀ S, (dSet 14 (dApp tupleO (dCons (dVal (dLc (dRng1 (dCons (dApp lenO (dCons (dVar 2) dNil)) dNil)) (.nm 15) dYes (dTup (dCons (dBin ixO (dBin ixO (dVar 2) (dVar 15)) (dC (.int 0))) (dCons (dBin ixO (dVar 12) (dVar 15)) dNil))) [15])) dNil))) (lv D s (tbV (cls s)) t (some (.p (.int l))) (some (.p (.bl b))) (some (.p (sV (ranS b l s)))) (some (.p (.int (1 + i0)))) (some (.p (.bl up))) (some (.p (opv (some x)))) (some (.p (opv (some y)))) v14 v15 v16) S = .nx (lv D s (tbV (cls s)) t (some (.p (.int l))) (some (.p (.bl b))) (some (.p (sV (ranS b l s)))) (some (.p (.int (1 + i0)))) (some (.p (.bl up))) (some (.p (opv (some x)))) (some (.p (opv (some y)))) (some (.p (sV (wth s x)))) v15 v16) S := fun S => by
      have lc := lc_other h.st.l lx (δ := [some (.p D), some (.c 1), some (.p (sV s)), none, none, some (.p (tbV (cls s))), t, some (.p (.int l)), some (.p (.bl b)), some (.p (sV (ranS b l s))), some (.p (.int (1 + i0))), some (.p (.bl up)), some (.p (opv (some x))), some (.p (opv (some y))), v14, none, v16]) 2 12 (fun _ => rfl) (fun _ => rfl) (fun _ => rfl) S
      have e : sV (wth s x) = .tup ((wth s x).map bV) := rfl
      have ln1 := ln (z := s)
      rw [e]
      unfold lv
      generalize (wth s x).map bV = Z at *
      generalize opv (some x) = O1 at *
      generalize opv (some y) = O2 at *
      generalize sV s = W at *
      generalize sV (ranS b l s) = W1 at *
      generalize tbV (cls s) = P at *
      generalize rangeI 0 s.length = RR at *
      simp [ln1, rg1, ev_kLc z1, wipeD, lc]
    have g2 : ∀ c v14', v14' = some (.p (sV (wth s x))) → (dSet 16 (dIte (dTru (dVar 8)) (dCall (d_law_plain 8) (dCons (dCall d_carried (dCons (dVar 14) (dCons (dVar 7) dNil))) dNil)) (dCall (d_law_plain 8) (dCons (dCall d_carried_back (dCons (dVar 14) (dCons (dVar 7) dNil))) dNil)))) (lv D s (tbV (cls s)) t (some (.p (.int l))) (some (.p (.bl b))) (some (.p (sV (ranS b l s)))) (some (.p (.int (1 + i0)))) (some (.p (.bl up))) (some (.p (opv (some x)))) (some (.p (opv (some y)))) v14' v15 v16) [T, c] = .nx (lv D s (tbV (cls s)) t (some (.p (.int l))) (some (.p (.bl b))) (some (.p (sV (ranS b l s)))) (some (.p (.int (1 + i0)))) (some (.p (.bl up))) (some (.p (opv (some x)))) (some (.p (opv (some y)))) v14' v15 (some (.p (sV (ranS b l (wth s x)))))) [T, c] := fun c v14' e => by
      subst e
      have := ite9 14 (lv D s (tbV (cls s)) t (some (.p (.int l))) (some (.p (.bl b))) (some (.p (sV (ranS b l s)))) (some (.p (.int (1 + i0)))) (some (.p (.bl up))) (some (.p (opv (some x)))) (some (.p (opv (some y)))) (some (.p (sV (wth s x)))) v15 v16) (wth s x) [T, c] rfl rfl rfl (h.wth sx) rfl
      unfold dSet
      rw [this]
      rfl
    have g3 : ∀ v14' S, (dIf (blOf (dBin neO (dVar 16) (dApp tupleO (dCons (dVal (dLc (dRng1 (dCons (dApp lenO (dCons (dVar 9) dNil)) dNil)) (.nm 15) dYes (dTup (dCons (dBin ixO (dBin ixO (dVar 9) (dVar 15)) (dC (.int 0))) (dCons (dBin ixO (dVar 13) (dVar 15)) dNil))) [15])) dNil)))) (dRet (dC (.bl false))) dPass) (lv D s (tbV (cls s)) t (some (.p (.int l))) (some (.p (.bl b))) (some (.p (sV (ranS b l s)))) (some (.p (.int (1 + i0)))) (some (.p (.bl up))) (some (.p (opv (some x)))) (some (.p (opv (some y)))) v14' v15 (some (.p (sV (ranS b l (wth s x)))))) S = .nx (lv D s (tbV (cls s)) t (some (.p (.int l))) (some (.p (.bl b))) (some (.p (sV (ranS b l s)))) (some (.p (.int (1 + i0)))) (some (.p (.bl up))) (some (.p (opv (some x)))) (some (.p (opv (some y)))) v14' v15 (some (.p (sV (ranS b l (wth s x)))))) S := fun v14' S => by
      have lc := lc_other hr.st.l ly (δ := [some (.p D), some (.c 1), some (.p (sV s)), none, none, some (.p (tbV (cls s))), t, some (.p (.int l)), some (.p (.bl b)), some (.p (sV (ranS b l s))), some (.p (.int (1 + i0))), some (.p (.bl up)), some (.p (opv (some x))), some (.p (opv (some y))), v14', none, some (.p (sV (ranS b l (wth s x))))]) 9 13 (fun _ => rfl) (fun _ => rfl) (fun _ => rfl) S
      have e : sV (ranS b l (wth s x)) = .tup ((wth (ranS b l s) y).map bV) := by rw [ex]; rfl
      have ne : ∀ S, neO (.p (sV (ranS b l (wth s x)))) (.p (.tup ((wth (ranS b l s) y).map bV))) S = some (.p (.bl false), S) := fun S => by
        rw [e]; exact ne_sV (wth (ranS b l s) y) S
      have ln2 := ln (z := ranS b l s)
      unfold lv
      generalize (wth (ranS b l s) y).map bV = Z at *
      generalize sV (ranS b l (wth s x)) = W3 at *
      generalize opv (some x) = O1 at *
      generalize opv (some y) = O2 at *
      generalize sV s = W at *
      generalize sV (ranS b l s) = W1 at *
      generalize tbV (cls s) = P at *
      generalize rangeI 0 (ranS b l s).length = RR at *
      simp [ln2, rg2, ev_kLc z2, wipeD, lc, ne]
    have g := sq_step (g1 [T, c4]) (sq_step (g2 c4 _ rfl) (g3 _ [T, c4]))
    refine sq_step (δ1 := lv D s (tbV (cls s)) t (some (.p (.int l))) (some (.p (.bl b))) (some (.p (sV (ranS b l s)))) (some (.p (.int (1 + i0)))) (some (.p (.bl up))) (some (.p (opv (some x)))) (some (.p (opv (some y)))) (some (.p (sV (wth s x)))) v15 (some (.p (sV (ranS b l (wth s x)))))) (S1 := [T, c4]) ?_ ?_
    · rw [ev_if]
      have cnd : (blOf (dBin isNotO (dVar 12) (dC .non))) (lv D s (tbV (cls s)) t (some (.p (.int l))) (some (.p (.bl b))) (some (.p (sV (ranS b l s)))) (some (.p (.int (1 + i0)))) (some (.p (.bl up))) (some (.p (opv (some x)))) (some (.p (opv (some y)))) v14 v15 v16) [T, c4] = .ok true [T, c4] := by
        unfold lv
        generalize opv (some x) = O1 at *
        generalize opv (some y) = O2 at *
        generalize sV s = W at *
        generalize sV (ranS b l s) = W1 at *
        generalize tbV (cls s) = P at *
        simp [nx']
      rw [cnd, out_ok]
      exact g
    · unfold lv
      generalize sV (ranS b l (wth s x)) = W3 at *
      generalize sV (wth s x) = W4 at *
      generalize opv (some x) = O1 at *
      generalize opv (some y) = O2 at *
      generalize sV s = W at *
      generalize sV (ranS b l s) = W1 at *
      generalize tbV (cls s) = P at *
      simp
theorem turns (D : PV) (P : PV) : ∀ (n : Nat) (lo : Int) {s : List (Int × Int)} {j : Int} {c : Cell} (t v7 v8 v9 v10 v11 v12 v13 v14 v15 v16 : Option DV), Jn s j → j + n ≤ 900 → St2 c → P = tbV (cls s) →
    ∃ δ' c', St2 c' ∧ forGo ckT (.nm 6) L0_law (rangeI lo n) (lv D s P t v7 v8 v9 v10 v11 v12 v13 v14 v15 v16) [T, c] = .nx δ' [T, c']
  | 0, lo, s, j, c, t, v7, v8, v9, v10, v11, v12, v13, v14, v15, v16, h, hj, hc, e => ⟨_, c, hc, for_nil⟩
  | n + 1, lo, s, j, c, t, v7, v8, v9, v10, v11, v12, v13, v14, v15, v16, h, hj, hc, e => by
    subst e
    obtain ⟨s', c', w7, w8, w9, w10, w11, w12, w13, w14, w15, w16, h', hc', e', tn⟩ := one_turn D h (by omega) hc (some (.p (.int lo))) v7 v8 v9 v10 v11 v12 v13 v14 v15 v16
    obtain ⟨δ', c2, hc2, r⟩ := turns D (tbV (cls s)) n (lo + 1) (some (.p (.int lo))) w7 w8 w9 w10 w11 w12 w13 w14 w15 w16 h' (by omega) hc' e'.symm
    refine ⟨δ', c2, hc2, ?_⟩
    rw [range_succ, for_nm]
    show afterTurn (L0_law (lv D s (tbV (cls s)) (some (.p (.int lo))) v7 v8 v9 v10 v11 v12 v13 v14 v15 v16) [T, c]) _ = _
    rw [tn, after_nx, r]
theorem law_true (D : PV) (ns : List Int) (hn : ns.length ≤ 63) (hD : D = .fro (ns.map PV.int) ∨ D = .lst (ns.map PV.int)) : ∃ S, d_law [.p D] [T] = .ok (.p (.bl true)) S := by
  obtain ⟨a0, b0, t0⟩ := state_ok D ns hD
  obtain ⟨c0, hc0, ec0⟩ : ∃ c0 : Cell, St2 c0 ∧ Cell.lst [.int a0, .int b0] = c0 := ⟨_, ⟨a0, b0, rfl⟩, rfl⟩
  rw [ec0] at t0
  obtain ⟨s0, c1, A, hc1, st0, hA, t1⟩ := lstandA_ok hc0
  obtain ⟨s, hN, t3⟩ := nrm D st0 hA [T, c1]
  obtain ⟨k, c2, hc2, hk, t4⟩ := take_ok hc1 (m := 5) [] (by omega) (by omega)
  obtain ⟨n, hn⟩ : ∃ n : Nat, 1 + k = (n : Int) := ⟨(1 + k).toNat, by omega⟩
  have J : Jn s 0 := ⟨std_sd hN.st, fun q hq => by have := hN.pl q hq; omega⟩
  obtain ⟨δ', c3, hc3, r⟩ := turns D (tbV (cls s)) n 0 none none none none none none none none none none none J (by omega) hc2 rfl
  have cs := colours_ok hN.st
  have ps : ∀ S, d_law_plain 8 [.p (tupI (s.map (·.2)))] S = .ok (.p (tupI (s.map (·.2)))) S := fun S => plain_pn (n := 1) (pn_ints (by rw [List.length_map]; have := hN.st.l; omega)) 8 (by decide) S
  have tr : ∀ S, d_law_tableau [.p (tupI (s.map (·.2)))] S = .ok (.p (tbV (cls s))) S := fun S => tab_ok (by rw [List.length_map]; have := hN.st.l; omega) S
  have rg := rg_len n (by omega)
  refine ⟨[T], (dDef_ap rfl).trans ?_⟩
  show gcK [T] false (b_law_ [some (.p D), none, none, none, none, none, none, none, none, none, none, none, none, none, none, none, none] [T]) = _
  have body : b_law_ [some (.p D), none, none, none, none, none, none, none, none, none, none, none, none, none, none, none, none] [T] = .rt (.p (.bl true)) [T, c3] := by
    unfold b_law_
    refine sq_step (δ1 := [some (.p D), some (.c 1), none, none, none, none, none, none, none, none, none, none, none, none, none, none, none]) (S1 := [T, c0]) (by simp [t0]) ?_
    refine sq_step (δ1 := dlN D s0) (S1 := [T, c1]) (by simp [t1, dlN]) ?_
    refine sq_step t3 ?_
    refine sq_step (δ1 := lv D s (tbV (cls s)) none none none none none none none none none none none) (S1 := [T, c1]) (by
      unfold dlN lv
      generalize sV s = W at *
      generalize tbV (cls s) = P at *
      generalize tupI (s.map (·.2)) = Q at *
      simp [cs, ps, tr]) ?_
    generalize tbV (cls s) = P at *
    have l : dFor (dRng1 (dCons (dBin addO (dC (.int 1)) (dCall d_law_take (dCons (dVar 1) (dCons (dC (.int 5)) dNil)))) dNil)) (.nm 6) L0_law (lv D s P none none none none none none none none none none none) [T, c1] = .nx δ' [T, c3] := by
      rw [ev_for]
      have it : (dRng1 (dCons (dBin addO (dC (.int 1)) (dCall d_law_take (dCons (dVar 1) (dCons (dC (.int 5)) dNil)))) dNil)) (lv D s P none none none none none none none none none none none) [T, c1] = .ok (rangeI 0 n, ckT) [T, c2] := by
        unfold lv
        generalize sV s = W at *
        simp [t4, hn, rg]
      rw [it, out_ok, ev_jFor, r]
    refine sq_step l ?_
    simp
  rw [body, gc_rt (by simp)]
  simp
end DL
namespace DL
open PySem PySem.Spec PyProof.Rows L2
theorem law_mk {l : PySem.W.OpenLaw} {w : World} {K : PySem.W.Frag} {mg : Str → Option Value} {fa : Addr} (T : Txt l.prog K mg) (hfa : mg "law" = some (.ref fa)) (bl : ∀ (s : Shared) (v : Value), BindsTo s T.d_law ⟨[v], []⟩ [("script", v)]) :
    ∃ (fd : FuncData) (f c P : Addr) (o : Obj) (fv : FuncData), (∀ (s : Shared) (v : Value), BindsTo s fd ⟨[v], []⟩ [("script", v)]) ∧ mg "visited" = some (.ref f) ∧ K.lookup f = some o ∧ o.data = .func fv ∧ fv.code = .ref c ∧ PySem.W.codeHdIn K c P = true ∧ K.lookup P = none ∧ ∀ base : Heap, LamX.TabB base mg c P → FnOk l.prog w K mg base (L2.CX l.prog w) 10 fa fd ["script"] (spLawT ⟨K, mg⟩ "visited") := by
  have e := hfa.symm.trans T.m_law
  cases e
  obtain ⟨o, h1, h2, h3⟩ := T.C_visited.look
  exact ⟨T.d_law, T.a_visited, T.k_visited, T.p_visited, o, T.d_visited, bl, T.m_visited, h1, h2, h3, T.h_visited, T.n_visited, fun base B => (ok_law T B).imp fun vs H Q E h => law_endT law_true h⟩
end DL
open PySem PySem.W PyProof.Rows
set_option maxRecDepth 100000 in
set_option maxHeartbeats 0 in
theorem PySem.Challenge.cw_carrierroads_k25_whole_colours_kept_holds : PySem.Challenge.rw_carrierroads_k25_whole_colours_kept.Holds := by
  w_on; o_law; k_head; (case hw => w_witness2)
  k_fill
  refine DL.walkT "visited" (l := PySem.Challenge.rw_carrierroads_k25_whole_colours_kept) (k := 10) rfl rfl ⟨rfl, by decide, by decide⟩ (by first | rfl | decide +kernel | kernel_rfl) (fun w h Y => PySem.W.km_in_of Y) ?F
  case F =>
    intro w mg fa h KX G hmg
    refine' DL.law_mk (DL.txt_mk KX G ?a1_is_integer ?l1_is_integer ?c1_is_integer ?k1_is_integer ?a1_is_ball ?l1_is_ball ?c1_is_ball ?k1_is_ball ?a1_is_standing ?l1_is_standing ?c1_is_standing ?k1_is_standing ?a1_check_standing ?l1_check_standing ?c1_check_standing ?k1_check_standing ?a1_colours_of ?l1_colours_of ?c1_colours_of ?k1_colours_of ?a1_is_room ?l1_is_room ?c1_is_room ?k1_is_room ?a1_check_room ?l1_check_room ?c1_check_room ?k1_check_room ?a1_held_letters ?l1_held_letters ?c1_held_letters ?k1_held_letters ?a1_laid_down ?l1_laid_down ?c1_laid_down ?k1_laid_down ?a1_laid_back ?l1_laid_back ?c1_laid_back ?k1_laid_back ?a1_visited ?l1_visited ?c1_visited ?k1_visited ?g1_visited ?g2_visited ?h1_visited ?n1_visited ?a1_run_once ?l1_run_once ?c1_run_once ?k1_run_once ?a1_carried ?l1_carried ?c1_carried ?k1_carried ?a1_run_back ?l1_run_back ?c1_run_back ?k1_run_back ?a1_carried_back ?l1_carried_back ?c1_carried_back ?k1_carried_back ?a1_law_state ?l1_law_state ?c1_law_state ?k1_law_state ?a1_law_take ?l1_law_take ?c1_law_take ?k1_law_take ?a1_law_plain ?l1_law_plain ?c1_law_plain ?k1_law_plain ?a1_law_standing ?l1_law_standing ?c1_law_standing ?k1_law_standing ?a1_law_room ?l1_law_room ?c1_law_room ?k1_law_room ?a1_law_tableau ?l1_law_tableau ?c1_law_tableau ?k1_law_tableau ?a1_law_stepped ?l1_law_stepped ?c1_law_stepped ?k1_law_stepped ?a1_law ?l1_law ?c1_law ?k1_law ?z1_abs ?z1_all ?z1_bool ?z1_int ?z1_isinstance ?z1_len ?z1_range ?z1_str ?z1_tuple ?c2_FAR ?c2_MOST_BALLS ?c2_MOST_ROOM ?e1_Malformed ?e2_Malformed ?e3_Malformed ?e4_Malformed ?e5_Malformed) hmg (fun s v => .of_eq rfl)
    (case a1_is_integer => k_is)
    (case l1_is_integer => k_is)
    (case c1_is_integer => k_is)
    (case k1_is_integer => k_is)
    (case a1_is_ball => k_is)
    (case l1_is_ball => k_is)
    (case c1_is_ball => k_is)
    (case k1_is_ball => k_is)
    (case a1_is_standing => k_is)
    (case l1_is_standing => k_is)
    (case c1_is_standing => k_is)
    (case k1_is_standing => k_is)
    (case a1_check_standing => k_is)
    (case l1_check_standing => k_is)
    (case c1_check_standing => k_is)
    (case k1_check_standing => k_is)
    (case a1_colours_of => k_is)
    (case l1_colours_of => k_is)
    (case c1_colours_of => k_is)
    (case k1_colours_of => k_is)
    (case a1_is_room => k_is)
    (case l1_is_room => k_is)
    (case c1_is_room => k_is)
    (case k1_is_room => k_is)
    (case a1_check_room => k_is)
    (case l1_check_room => k_is)
    (case c1_check_room => k_is)
    (case k1_check_room => k_is)
    (case a1_held_letters => k_is)
    (case l1_held_letters => k_is)
    (case c1_held_letters => k_is)
    (case k1_held_letters => k_is)
    (case a1_laid_down => k_is)
    (case l1_laid_down => k_is)
    (case c1_laid_down => k_is)
    (case k1_laid_down => k_is)
    (case a1_laid_back => k_is)
    (case l1_laid_back => k_is)
    (case c1_laid_back => k_is)
    (case k1_laid_back => k_is)
    (case a1_visited => k_is)
    (case l1_visited => k_is)
    (case c1_visited => k_is)
    (case k1_visited => k_is)
    (case g1_visited => k_is)
    (case g2_visited => rfl)
    (case h1_visited => first | rfl | kernel_rfl)
    (case n1_visited => first | rfl | kernel_rfl)
    (case a1_run_once => k_is)
    (case l1_run_once => k_is)
    (case c1_run_once => k_is)
    (case k1_run_once => k_is)
    (case a1_carried => k_is)
    (case l1_carried => k_is)
    (case c1_carried => k_is)
    (case k1_carried => k_is)
    (case a1_run_back => k_is)
    (case l1_run_back => k_is)
    (case c1_run_back => k_is)
    (case k1_run_back => k_is)
    (case a1_carried_back => k_is)
    (case l1_carried_back => k_is)
    (case c1_carried_back => k_is)
    (case k1_carried_back => k_is)
    (case a1_law_state => k_is)
    (case l1_law_state => k_is)
    (case c1_law_state => k_is)
    (case k1_law_state => k_is)
    (case a1_law_take => k_is)
    (case l1_law_take => k_is)
    (case c1_law_take => k_is)
    (case k1_law_take => k_is)
    (case a1_law_plain => k_is)
    (case l1_law_plain => k_is)
    (case c1_law_plain => k_is)
    (case k1_law_plain => k_is)
    (case a1_law_standing => k_is)
    (case l1_law_standing => k_is)
    (case c1_law_standing => k_is)
    (case k1_law_standing => k_is)
    (case a1_law_room => k_is)
    (case l1_law_room => k_is)
    (case c1_law_room => k_is)
    (case k1_law_room => k_is)
    (case a1_law_tableau => k_is)
    (case l1_law_tableau => k_is)
    (case c1_law_tableau => k_is)
    (case k1_law_tableau => k_is)
    (case a1_law_stepped => k_is)
    (case l1_law_stepped => k_is)
    (case c1_law_stepped => k_is)
    (case k1_law_stepped => k_is)
    (case a1_law => k_is)
    (case l1_law => k_is)
    (case c1_law => k_is)
    (case k1_law => k_is)
    (case z1_abs => k_is)
    (case z1_all => k_is)
    (case z1_bool => k_is)
    (case z1_int => k_is)
    (case z1_isinstance => k_is)
    (case z1_len => k_is)
    (case z1_range => k_is)
    (case z1_str => k_is)
    (case z1_tuple => k_is)
    (case c2_FAR => k_is)
    (case c2_MOST_BALLS => k_is)
    (case c2_MOST_ROOM => k_is)
    (case e1_Malformed => k_is)
    (case e2_Malformed => k_exc)
    (case e3_Malformed => k_is)
    (case e4_Malformed => k_is)
    (case e5_Malformed => k_is)
