import PyProof.Rows.All
import Wide.All
import OpenK.AllK
import Wide.FinOn
import HandS.ForMost
import HandS.Exc
import HandS.TryOnly
import HandS.ExcOwn
import HandS.WordsExc
import HandS.IsInst
import HandS.TupAny
import HandS.Wide
import HandS.SortInts
import HandS.SetFor
import HandS.Style
import HandS.TupMul
import HandS.Flow
import HandS.Conv
import HandS.Zip
import HandS.Deep
import HandS.Nested
import HandS.NestedK
import HandS.TryMany
import HandS.ExcSuper
import HandS.ExcField
import HandS.SetKeys
import HandS.TupSets
import HandS.DictTup
import KE.KTupSum
import KE.DataMinMax
import PySem.Challenge.RW_carrierroads_k60_rings_recognized
set_option Elab.async false
set_option linter.all false
set_option maxRecDepth 100000
set_option maxHeartbeats 4000000
namespace DL
open PySem PySem.Spec PyProof.Rows L2

/-! ### data -/
/-- a value that never changes -/
inductive PV where
  | non | bl (b : Bool) | int (i : Int) | str (x : Str) | tup (xs : List PV) | lst (xs : List PV) | fro (xs : List PV) | glob (n : Str)
/-- what may change -/
inductive Cell where
  | lst (xs : List PV)
  | nst (ks : List Nat)
abbrev AH := List Cell
/-- what a name holds -/
inductive DV where
  | p (v : PV) | c (n : Nat)
abbrev Sig := List (Option DV)
inductive Res (α : Type) where
  | ok (a : α) (S : AH) | exc (c : Str) (p : List (Str × PV)) (S : AH) | bad
def Res.bind {α β : Type} (r : Res α) (k : α → AH → Res β) : Res β := match r with
  | .ok a S => k a S
  | .exc c p S => .exc c p S
  | .bad => .bad
@[simp] theorem Res.bind_ok {α β : Type} (a : α) (S : AH) (k : α → AH → Res β) : (Res.ok a S).bind k = k a S := rfl
@[simp] theorem Res.bind_exc {α β : Type} (c : Str) (p : List (Str × PV)) (S : AH) (k : α → AH → Res β) : (Res.exc c p S : Res α).bind k = .exc c p S := rfl
@[simp] theorem Res.bind_bad {α β : Type} (k : α → AH → Res β) : (Res.bad : Res α).bind k = .bad := rfl
inductive Out where
  | nx (δ : Sig) (S : AH) | rt (d : DV) (S : AH) | rtT (ds : List DV) (S : AH) | bk (δ : Sig) (S : AH) | ct (δ : Sig) (S : AH) | exc (c : Str) (p : List (Str × PV)) (δ : Sig) (S : AH) | bad

/-! ### the relation -/
/-- the written part, the module's names -/
structure Wd where
  K : PySem.W.Frag
  mg : Str → Option Value
/-- where the cells lie; what nobody sees -/
structure As where
  cells : List Addr
  hid : Addr → Prop
def As.off (as : As) (a : Addr) : Prop := a ∉ as.cells ∧ ¬ as.hid a
def As.add (as : As) (p : Addr) : As := ⟨as.cells ++ [p], as.hid⟩
def As.hide (as : As) (p : Addr) : As := ⟨as.cells, fun a => as.hid a ∨ a = p⟩
def KT (K : PySem.W.Frag) (a : Addr) (xs : List V) : Prop :=
  ∃ (o : Obj) (its : Array Value) (n : Nat), K.lookup a = some o ∧ o.cls = .type "tuple" ∧ o.data = .seq its n ∧ its.size ≤ sizeLine ∧ Vals xs its.toList
def RdT (K : PySem.W.Frag) (as : As) (H : Hp) (a : Addr) (xs : List V) : Prop := xs.length ≤ sizeLine ∧ ((H a = some (.tup xs) ∧ as.off a) ∨ KT K a xs)
def RdL (as : As) (H : Hp) (a : Addr) (xs : List V) : Prop := xs.length ≤ sizeLine ∧ H a = some (.lst xs) ∧ as.off a
def KL (K : PySem.W.Frag) (a : Addr) (xs : List V) : Prop :=
  ∃ (o : Obj) (its : Array Value) (n : Nat), K.lookup a = some o ∧ o.cls = .type "list" ∧ o.dict = none ∧ o.data = .seq its n ∧ its.size ≤ sizeLine ∧ Vals xs its.toList
def RdF (K : PySem.W.Frag) (as : As) (H : Hp) (a : Addr) (xs : List V) : Prop := xs.length ≤ sizeLine ∧ (((∃ o, H a = some (.frz o (.lst xs))) ∧ as.off a) ∨ KL K a xs)
mutual
inductive PR (M : Wd) (as : As) (H : Hp) : V → PV → Prop
  | non : PR M as H .non .non
  | bl (b : Bool) : PR M as H (.bl b) (.bl b)
  | int (i : Int) : PR M as H (.int i) (.int i)
  | str (x : Str) : PR M as H (.str x) (.str x)
  | tup {a : Addr} {vs : List V} {ps : List PV} : RdT M.K as H a vs → PRs M as H vs ps → PR M as H (.ref a) (.tup ps)
  | lst {a : Addr} {vs : List V} {ps : List PV} : RdL as H a vs → PRs M as H vs ps → PR M as H (.ref a) (.lst ps)
  | fro {a : Addr} {vs : List V} {ps : List PV} : RdF M.K as H a vs → PRs M as H vs ps → PR M as H (.ref a) (.fro ps)
  | glob {v : V} {u : Value} {n : Str} : M.mg n = some u → RelV v u → PR M as H v (.glob n)
inductive PRs (M : Wd) (as : As) (H : Hp) : List V → List PV → Prop
  | nil : PRs M as H [] []
  | cons {v : V} {vs : List V} {p : PV} {ps : List PV} : PR M as H v p → PRs M as H vs ps → PRs M as H (v :: vs) (p :: ps)
end

/-- the later state -/
structure Ext (as : As) (H : Hp) (as' : As) (H' : Hp) : Prop where
  more : ∃ m, as'.cells = as.cells ++ m
  hids : as'.hid = as.hid
  keep : ∀ a o, H a = some o → as.off a → H' a = some o ∧ as'.off a
  hkeep : ∀ a o, as.hid a → H a = some o → H' a = some o
theorem Ext.refl (as : As) (H : Hp) : Ext as H as H := ⟨⟨[], by simp⟩, rfl, fun a o h n => ⟨h, n⟩, fun _ _ _ h => h⟩
theorem Ext.trans {as as1 as2 : As} {H H1 H2 : Hp} (x : Ext as H as1 H1) (y : Ext as1 H1 as2 H2) : Ext as H as2 H2 := by
  obtain ⟨m1, e1⟩ := x.more
  obtain ⟨m2, e2⟩ := y.more
  refine ⟨⟨m1 ++ m2, by rw [e2, e1, List.append_assoc]⟩, by rw [y.hids, x.hids], fun a o h n => ?_, fun a o hh h => ?_⟩
  · obtain ⟨h1, n1⟩ := x.keep a o h n
    exact y.keep a o h1 n1
  · exact y.hkeep a o (by rw [x.hids]; exact hh) (x.hkeep a o hh h)
theorem Ext.get {as as' : As} {H H' : Hp} (x : Ext as H as' H') {i : Nat} {a : Addr} (h : as.cells[i]? = some a) : as'.cells[i]? = some a := by
  obtain ⟨m, e⟩ := x.more
  rw [e, List.getElem?_append_left (List.getElem?_eq_some_iff.mp h).1]
  exact h
/-- the later state, whatever is hidden -/
structure Exw (as : As) (H : Hp) (as' : As) (H' : Hp) : Prop where
  more : ∃ m, as'.cells = as.cells ++ m
  keep : ∀ a o, H a = some o → as.off a → H' a = some o ∧ as'.off a
theorem Ext.w {as as' : As} {H H' : Hp} (x : Ext as H as' H') : Exw as H as' H' := ⟨x.more, x.keep⟩
instance {as as' : As} {H H' : Hp} : CoeOut (Ext as H as' H') (Exw as H as' H') := ⟨Ext.w⟩
theorem Exw.get {as as' : As} {H H' : Hp} (x : Exw as H as' H') {i : Nat} {a : Addr} (h : as.cells[i]? = some a) : as'.cells[i]? = some a := by
  obtain ⟨m, e⟩ := x.more
  rw [e, List.getElem?_append_left (List.getElem?_eq_some_iff.mp h).1]
  exact h
theorem Exw.trans {as as1 as2 : As} {H H1 H2 : Hp} (x : Exw as H as1 H1) (y : Exw as1 H1 as2 H2) : Exw as H as2 H2 := by
  obtain ⟨m1, e1⟩ := x.more
  obtain ⟨m2, e2⟩ := y.more
  refine ⟨⟨m1 ++ m2, by rw [e2, e1, List.append_assoc]⟩, fun a o h n => ?_⟩
  obtain ⟨h1, n1⟩ := x.keep a o h n
  exact y.keep a o h1 n1
section
variable {M : Wd} {as as' : As} {H H' : Hp}
theorem RdT.mono {K : PySem.W.Frag} {a : Addr} {xs : List V} (x : Exw as H as' H') (h : RdT K as H a xs) : RdT K as' H' a xs := by
  refine ⟨h.1, ?_⟩
  rcases h.2 with ⟨h, n⟩ | h
  · exact .inl (x.keep _ _ h n)
  · exact .inr h
theorem RdL.mono {a : Addr} {xs : List V} (x : Exw as H as' H') (h : RdL as H a xs) : RdL as' H' a xs := ⟨h.1, x.keep _ _ h.2.1 h.2.2⟩
theorem RdF.mono {K : PySem.W.Frag} {a : Addr} {xs : List V} (x : Exw as H as' H') (h : RdF K as H a xs) : RdF K as' H' a xs := by
  refine ⟨h.1, ?_⟩
  rcases h.2 with ⟨⟨o, e⟩, n⟩ | h
  · obtain ⟨e', n'⟩ := x.keep _ _ e n
    exact .inl ⟨⟨o, e'⟩, n'⟩
  · exact .inr h
mutual
theorem PR.mono (x : Exw as H as' H') : ∀ {v : V} {p : PV}, PR M as H v p → PR M as' H' v p
  | _, _, .non => .non
  | _, _, .bl b => .bl b
  | _, _, .int i => .int i
  | _, _, .str y => .str y
  | _, _, .tup h t => .tup (h.mono x) (PRs.mono x t)
  | _, _, .lst h t => .lst (h.mono x) (PRs.mono x t)
  | _, _, .fro h t => .fro (h.mono x) (PRs.mono x t)
  | _, _, .glob h r => .glob h r
theorem PRs.mono (x : Exw as H as' H') : ∀ {vs : List V} {ps : List PV}, PRs M as H vs ps → PRs M as' H' vs ps
  | _, _, .nil => .nil
  | _, _, .cons h t => .cons (PR.mono x h) (PRs.mono x t)
end
theorem PRs.length : ∀ {vs : List V} {ps : List PV}, PRs M as H vs ps → vs.length = ps.length
  | _, _, .nil => rfl
  | _, _, .cons _ t => congrArg (· + 1) (PRs.length t)
theorem PRs.get : ∀ {vs : List V} {ps : List PV} {i : Nat} {p : PV}, PRs M as H vs ps → ps[i]? = some p → ∃ v, vs[i]? = some v ∧ PR M as H v p
  | _, _, _, _, .nil, e => by simp at e
  | _, _, 0, _, .cons r _, e => by simp at e; subst e; exact ⟨_, rfl, r⟩
  | _, _, i + 1, p, .cons _ t, e => by
    obtain ⟨u, h1, h2⟩ := PRs.get (i := i) (p := p) t (by simpa using e)
    exact ⟨u, by simpa using h1, h2⟩
theorem PRs.getV : ∀ {vs : List V} {ps : List PV} {i : Nat} {v : V}, PRs M as H vs ps → vs[i]? = some v → ∃ p, ps[i]? = some p ∧ PR M as H v p
  | _, _, _, _, .nil, e => by simp at e
  | _, _, 0, _, .cons r _, e => by simp at e; subst e; exact ⟨_, rfl, r⟩
  | _, _, i + 1, v, .cons _ t, e => by
    obtain ⟨u, h1, h2⟩ := PRs.getV (i := i) (v := v) t (by simpa using e)
    exact ⟨u, by simpa using h1, h2⟩
theorem PRs.append : ∀ {vs ws : List V} {ps qs : List PV}, PRs M as H vs ps → PRs M as H ws qs → PRs M as H (vs ++ ws) (ps ++ qs)
  | _, _, _, _, .nil, s => s
  | _, _, _, _, .cons r t, s => .cons r (PRs.append t s)
theorem PRs.take : ∀ {vs : List V} {ps : List PV} (n : Nat), PRs M as H vs ps → PRs M as H (vs.take n) (ps.take n)
  | _, _, 0, _ => .nil
  | _, _, _ + 1, .nil => .nil
  | _, _, n + 1, .cons r t => .cons r (PRs.take n t)
theorem PRs.drop : ∀ {vs : List V} {ps : List PV} (n : Nat), PRs M as H vs ps → PRs M as H (vs.drop n) (ps.drop n)
  | _, _, 0, r => r
  | _, _, _ + 1, .nil => .nil
  | _, _, n + 1, .cons _ t => PRs.drop n t
theorem PRs.set {v : V} {p : PV} (r : PR M as H v p) : ∀ {vs : List V} {ps : List PV} (i : Nat), PRs M as H vs ps → PRs M as H (vs.set i v) (ps.set i p)
  | _, _, _, .nil => .nil
  | _, _, 0, .cons _ t => .cons r t
  | _, _, i + 1, .cons q t => .cons q (PRs.set r i t)
theorem PRs.reverse {vs : List V} {ps : List PV} (h : PRs M as H vs ps) : PRs M as H vs.reverse ps.reverse := by
  have go : ∀ (vs : List V) (ps : List PV), PRs M as H vs ps → PRs M as H vs.reverse ps.reverse := by
    intro vs
    induction vs with
    | nil => intro ps h; cases h; exact .nil
    | cons v vs ih =>
      intro ps h
      cases h with
      | cons r t => rw [List.reverse_cons, List.reverse_cons]; exact PRs.append (ih _ t) (.cons r .nil)
  exact go vs ps h
theorem PRs.dropLast {vs : List V} {ps : List PV} (h : PRs M as H vs ps) : PRs M as H vs.dropLast ps.dropLast := by
  rw [List.dropLast_eq_take, List.dropLast_eq_take, h.length]
  exact h.take _
theorem PRs.ints : ∀ {vs : List V} {ns : List Int}, PRs M as H vs (ns.map PV.int) → vs = ns.map V.int
  | vs, [], h => by cases h; rfl
  | vs, n :: ns, h => by
    cases h with
    | cons r t => cases r; rw [PRs.ints t]; rfl
theorem PRs.bls : ∀ {vs : List V} {ns : List Bool}, PRs M as H vs (ns.map PV.bl) → vs = ns.map V.bl
  | vs, [], h => by cases h; rfl
  | vs, n :: ns, h => by
    cases h with
    | cons r t => cases r; rw [PRs.bls t]; rfl
theorem PRs.of_ints : ∀ (ns : List Int), PRs M as H (ns.map V.int) (ns.map PV.int)
  | [] => .nil
  | n :: ns => .cons (.int n) (PRs.of_ints ns)
theorem RdT.sq {K : PySem.W.Frag} {a : Addr} {xs : List V} (h : RdT K as H a xs) : SqT K H a xs := by
  rcases h.2 with ⟨h, _⟩ | h
  · exact .of h
  · exact .inr h
theorem RdL.sq {K : PySem.W.Frag} {a : Addr} {xs : List V} (h : RdL as H a xs) : SqL K H a xs := .of h.2.1
theorem RdF.sq {K : PySem.W.Frag} {a : Addr} {xs : List V} (h : RdF K as H a xs) : SqL K H a xs := by
  rcases h.2 with ⟨⟨o, e⟩, _⟩ | h
  · exact .inl (.inr ⟨o, e⟩)
  · exact .inr h
end

/-! ### the cells -/
/-- values that are cells -/
def KRs (as : As) (vs : List V) (ks : List Nat) : Prop := Paired (fun (v : V) (k : Nat) => ∃ b, as.cells[k]? = some b ∧ v = .ref b) vs ks
def CR (M : Wd) (as : As) (H : Hp) (a : Addr) : Cell → Prop
  | .lst ps => ∃ vs, vs.length ≤ sizeLine ∧ H a = some (.lst vs) ∧ PRs M as H vs ps
  | .nst ks => ∃ vs, vs.length ≤ sizeLine ∧ H a = some (.lst vs) ∧ KRs as vs ks
theorem KRs.mono {as as' : As} {H H' : Hp} (x : Exw as H as' H') {vs : List V} {ks : List Nat} (h : KRs as vs ks) : KRs as' vs ks := Paired.mapP h fun _ _ ⟨b, e, r⟩ => ⟨b, x.get e, r⟩
structure SR (M : Wd) (as : As) (H : Hp) (S : AH) : Prop where
  len : as.cells.length = S.length
  nd : as.cells.Nodup
  apart : ∀ a ∈ as.cells, ¬ as.hid a
  hidd : ∀ a, as.hid a → ∃ o, H a = some o
  cell : ∀ (i : Nat) (a : Addr) (c : Cell), as.cells[i]? = some a → S[i]? = some c → CR M as H a c
def DVR (M : Wd) (as : As) (H : Hp) (v : V) : DV → Prop
  | .p x => PR M as H v x
  | .c n => ∃ a, as.cells[n]? = some a ∧ v = .ref a
abbrev DVRs (M : Wd) (as : As) (H : Hp) : List V → List DV → Prop := Paired (DVR M as H)
structure ER (M : Wd) (as : As) (H : Hp) (σ : L2.St) (δ : Sig) : Prop where
  len : σ.length = δ.length
  get : ∀ (i : Nat) (d : DV), δ[i]? = some (some d) → ∃ v, σ[i]? = some (some v) ∧ DVR M as H v d
section
variable {M : Wd} {as as' : As} {H H' : Hp} {S : AH} {σ : L2.St} {δ : Sig}
theorem DVR.mono (x : Exw as H as' H') {v : V} : ∀ {d : DV}, DVR M as H v d → DVR M as' H' v d
  | .p _, h => PR.mono x h
  | .c _, ⟨a, e, r⟩ => ⟨a, x.get e, r⟩
theorem DVRs.mono (x : Exw as H as' H') {vs : List V} {ds : List DV} (h : DVRs M as H vs ds) : DVRs M as' H' vs ds := Paired.mapP h fun _ _ => DVR.mono x
theorem ER.mono (x : Exw as H as' H') (h : ER M as H σ δ) : ER M as' H' σ δ := ⟨h.len, fun i d e => by
  obtain ⟨v, q, r⟩ := h.get i d e
  exact ⟨v, q, r.mono x⟩⟩
theorem ER.set (h : ER M as H σ δ) {v : V} {d : DV} (r : DVR M as H v d) (i : Nat) : ER M as H (σ.set i (some v)) (δ.set i (some d)) := by
  refine ⟨by rw [List.length_set, List.length_set]; exact h.len, fun j e q => ?_⟩
  by_cases hj : i = j
  · subst hj
    have hi : i < δ.length := by have := (List.getElem?_eq_some_iff.mp q).1; rw [List.length_set] at this; exact this
    rw [List.getElem?_set_self hi] at q
    cases q
    exact ⟨v, List.getElem?_set_self (by rw [h.len]; exact hi), r⟩
  · rw [List.getElem?_set_ne hj] at q ⊢
    exact h.get j e q
theorem ER.clear (h : ER M as H σ δ) (i : Nat) : ER M as H (σ.set i none) (δ.set i none) := by
  refine ⟨by rw [List.length_set, List.length_set]; exact h.len, fun j e q => ?_⟩
  by_cases hj : i = j
  · subst hj
    have hi : i < δ.length := by have := (List.getElem?_eq_some_iff.mp q).1; rw [List.length_set] at this; exact this
    rw [List.getElem?_set_self hi] at q
    cases q
  · rw [List.getElem?_set_ne hj] at q ⊢
    exact h.get j e q
def wipeD (δ : Sig) : List Nat → Sig
  | [] => δ
  | v :: vs => (wipeD δ vs).set v none
theorem ER.wipe (h : ER M as H σ δ) : ∀ vs, ER M as H (L2.wipe σ vs) (wipeD δ vs)
  | [] => h
  | v :: vs => (ER.wipe h vs).clear v

theorem SR.mem_some (h : SR M as H S) {p : Addr} (m : p ∈ as.cells) : ∃ o, H p = some o := by
  obtain ⟨i, hi⟩ := List.mem_iff_getElem?.mp m
  have hl : i < S.length := by rw [← h.len]; exact (List.getElem?_eq_some_iff.mp hi).1
  have q := h.cell i p S[i] hi (List.getElem?_eq_getElem hl)
  revert q
  cases S[i] with
  | lst ps => rintro ⟨vs, _, e, _⟩; exact ⟨_, e⟩
  | nst ks => rintro ⟨vs, _, e, _⟩; exact ⟨_, e⟩
theorem SR.fresh (h : SR M as H S) {p : Addr} (n : H p = none) : as.off p := by
  refine ⟨fun m => ?_, fun m => ?_⟩
  · obtain ⟨o, e⟩ := h.mem_some m
    rw [n] at e; cases e
  · obtain ⟨o, e⟩ := h.hidd p m
    rw [n] at e; cases e
theorem CR.mono {a : Addr} (x : Ext as H as' H') (k : H' a = H a) : ∀ {c : Cell}, CR M as H a c → CR M as' H' a c
  | .lst ps, ⟨vs, z, e, r⟩ => ⟨vs, z, by rw [k]; exact e, r.mono x⟩
  | .nst ks, ⟨vs, z, e, r⟩ => ⟨vs, z, by rw [k]; exact e, r.mono x.w⟩
/-- something new is laid -/
theorem ext_new {o : HO} {p : Addr} (h : SR M as H S) (n : H p = none) : Ext as H as (upd H p o) :=
  ⟨⟨[], by simp⟩, rfl, fun a u e na => ⟨by rw [upd_ne (ne_of_none e n)]; exact e, na⟩, fun a u _ e => by rw [upd_ne (ne_of_none e n)]; exact e⟩
theorem SR.new {o : HO} {p : Addr} (h : SR M as H S) (n : H p = none) : SR M as (upd H p o) S :=
  ⟨h.len, h.nd, h.apart, fun a ha => by
    obtain ⟨u, e⟩ := h.hidd a ha
    exact ⟨u, by rw [upd_ne (ne_of_none e n)]; exact e⟩, fun i a c e1 e2 => (h.cell i a c e1 e2).mono (ext_new h n) (upd_ne fun z => (h.fresh n).1 (by rw [← z]; exact List.mem_of_getElem? e1))⟩
theorem ext_cell {vs : List V} {p : Addr} (h : SR M as H S) (n : H p = none) : Ext as H (as.add p) (upd H p (.lst vs)) := by
  refine ⟨⟨[p], rfl⟩, rfl, fun a u e na => ⟨by rw [upd_ne (ne_of_none e n)]; exact e, fun m => ?_, na.2⟩, fun a u _ e => by rw [upd_ne (ne_of_none e n)]; exact e⟩
  rcases List.mem_append.mp m with m | m
  · exact na.1 m
  · have : a = p := by simpa using m
    subst this
    rw [n] at e; cases e
theorem SR.newAny {vs : List V} {cl : Cell} {p : Addr} (h : SR M as H S) (n : H p = none) (k : CR M (as.add p) (upd H p (.lst vs)) p cl) : SR M (as.add p) (upd H p (.lst vs)) (S ++ [cl]) := by
  have x := ext_cell (vs := vs) h n
  refine ⟨by unfold As.add; rw [List.length_append, List.length_append, h.len]; rfl, List.nodup_append.mpr ⟨h.nd, by simp, fun a ha b hb e => ?_⟩, fun a ha => ?_, fun a ha => ?_, fun i a c e1 e2 => ?_⟩
  · have : b = p := by simpa using hb
    subst this
    subst e
    exact (h.fresh n).1 ha
  · rcases List.mem_append.mp ha with m | m
    · exact h.apart a m
    · have : a = p := by simpa using m
      subst this
      exact (h.fresh n).2
  · obtain ⟨u, e⟩ := h.hidd a ha
    exact ⟨u, by rw [upd_ne (ne_of_none e n)]; exact e⟩
  · have e1 : (as.cells ++ [p])[i]? = some a := e1
    by_cases hi : i < as.cells.length
    · rw [List.getElem?_append_left hi] at e1
      rw [List.getElem?_append_left (by rw [← h.len]; exact hi)] at e2
      exact (h.cell i a c e1 e2).mono x (upd_ne fun z => (h.fresh n).1 (by rw [← z]; exact List.mem_of_getElem? e1))
    · have hl : i < (as.cells ++ [p]).length := (List.getElem?_eq_some_iff.mp e1).1
      rw [List.length_append, List.length_singleton] at hl
      have hi' : i = as.cells.length := by omega
      subst hi'
      rw [List.getElem?_append_right (Nat.le_refl _), Nat.sub_self] at e1
      rw [h.len, List.getElem?_append_right (Nat.le_refl _), Nat.sub_self] at e2
      have e1' : p = a := by simpa using e1
      have e2' : cl = c := by simpa using e2
      subst e1'
      subst e2'
      exact k
theorem SR.newCell {vs : List V} {ps : List PV} {p : Addr} (h : SR M as H S) (n : H p = none) (z : vs.length ≤ sizeLine) (r : PRs M as H vs ps) : SR M (as.add p) (upd H p (.lst vs)) (S ++ [.lst ps]) := h.newAny n ⟨vs, z, upd_same, r.mono (ext_cell (vs := vs) h n).w⟩
theorem SR.newNest {vs : List V} {ks : List Nat} {p : Addr} (h : SR M as H S) (n : H p = none) (z : vs.length ≤ sizeLine) (r : KRs as vs ks) : SR M (as.add p) (upd H p (.lst vs)) (S ++ [.nst ks]) := h.newAny n ⟨vs, z, upd_same, r.mono (ext_cell (vs := vs) h n).w⟩
theorem SR.at (h : SR M as H S) {n : Nat} {ps : List PV} (e : S[n]? = some (.lst ps)) : ∃ a vs, as.cells[n]? = some a ∧ vs.length ≤ sizeLine ∧ H a = some (.lst vs) ∧ PRs M as H vs ps := by
  have hl : n < as.cells.length := by rw [h.len]; exact (List.getElem?_eq_some_iff.mp e).1
  obtain ⟨vs, z, q, r⟩ := h.cell n as.cells[n] _ (List.getElem?_eq_getElem hl) e
  exact ⟨as.cells[n], vs, List.getElem?_eq_getElem hl, z, q, r⟩
theorem ext_write {o : HO} {n : Nat} {a : Addr} (h : SR M as H S) (e : as.cells[n]? = some a) : Ext as H as (upd H a o) :=
  ⟨⟨[], by simp⟩, rfl, fun b u q nb => ⟨by rw [upd_ne fun z => nb.1 (by rw [z]; exact List.mem_of_getElem? e)]; exact q, nb⟩, fun b u hb q => by
    rw [upd_ne fun z => h.apart b (by rw [z]; exact List.mem_of_getElem? e) hb]; exact q⟩
theorem SR.writeAny (h : SR M as H S) {n : Nat} {a : Addr} {vs : List V} {cl : Cell} (e : as.cells[n]? = some a) (k : CR M as (upd H a (.lst vs)) a cl) : SR M as (upd H a (.lst vs)) (S.set n cl) := by
  have x : Ext as H as (upd H a (.lst vs)) := ext_write h e
  refine ⟨by rw [List.length_set]; exact h.len, h.nd, h.apart, fun b hb => ?_, fun i b c e1 e2 => ?_⟩
  · obtain ⟨u, q⟩ := h.hidd b hb
    exact ⟨u, x.hkeep b u hb q⟩
  by_cases hi : n = i
  · subst hi
    rw [e] at e1; cases e1
    have hl : n < S.length := by rw [← h.len]; exact (List.getElem?_eq_some_iff.mp e).1
    rw [List.getElem?_set_self hl] at e2
    cases e2
    exact k
  · rw [List.getElem?_set_ne hi] at e2
    refine (h.cell i b c e1 e2).mono x (upd_ne fun q => hi ?_)
    subst q
    have h1 : n < as.cells.length := (List.getElem?_eq_some_iff.mp e).1
    have h2 : i < as.cells.length := (List.getElem?_eq_some_iff.mp e1).1
    rw [List.getElem?_eq_getElem h1] at e
    rw [List.getElem?_eq_getElem h2] at e1
    exact (List.getElem_inj h.nd).mp (by simp only [Option.some.injEq] at e e1; rw [e, e1])
theorem SR.write (h : SR M as H S) {n : Nat} {a : Addr} {vs : List V} {ps : List PV} (e : as.cells[n]? = some a) (z : vs.length ≤ sizeLine) (r : PRs M as H vs ps) : SR M as (upd H a (.lst vs)) (S.set n (.lst ps)) := h.writeAny e ⟨vs, z, upd_same, r.mono (ext_write (o := .lst vs) h e).w⟩
theorem SR.writeNest (h : SR M as H S) {n : Nat} {a : Addr} {vs : List V} {ks : List Nat} (e : as.cells[n]? = some a) (z : vs.length ≤ sizeLine) (r : KRs as vs ks) : SR M as (upd H a (.lst vs)) (S.set n (.nst ks)) := h.writeAny e ⟨vs, z, upd_same, r⟩
theorem SR.atN (h : SR M as H S) {n : Nat} {ks : List Nat} (e : S[n]? = some (.nst ks)) : ∃ a vs, as.cells[n]? = some a ∧ vs.length ≤ sizeLine ∧ H a = some (.lst vs) ∧ KRs as vs ks := by
  have hl : n < as.cells.length := by rw [h.len]; exact (List.getElem?_eq_some_iff.mp e).1
  obtain ⟨vs, z, q, r⟩ := h.cell n as.cells[n] _ (List.getElem?_eq_getElem hl) e
  exact ⟨as.cells[n], vs, List.getElem?_eq_getElem hl, z, q, r⟩
/-- one thing is hidden: H is Hm with something at p -/
theorem RdT.hide {K : PySem.W.Frag} {o : HO} {p a : Addr} {xs : List V} (n : H p = none) (h : RdT K as H a xs) : RdT K (as.hide p) (upd H p o) a xs := by
  refine ⟨h.1, ?_⟩
  rcases h.2 with ⟨h, q⟩ | h
  · have ne : a ≠ p := ne_of_none h n
    exact .inl ⟨by rw [upd_ne ne]; exact h, q.1, fun z => z.elim q.2 ne⟩
  · exact .inr h
theorem RdL.hide {o : HO} {p a : Addr} {xs : List V} (n : H p = none) (h : RdL as H a xs) : RdL (as.hide p) (upd H p o) a xs := by
  have ne : a ≠ p := ne_of_none h.2.1 n
  exact ⟨h.1, by rw [upd_ne ne]; exact h.2.1, h.2.2.1, fun z => z.elim h.2.2.2 ne⟩
theorem RdF.hide {K : PySem.W.Frag} {o : HO} {p a : Addr} {xs : List V} (n : H p = none) (h : RdF K as H a xs) : RdF K (as.hide p) (upd H p o) a xs := by
  refine ⟨h.1, ?_⟩
  rcases h.2 with ⟨⟨u, e⟩, q⟩ | h
  · have ne : a ≠ p := ne_of_none e n
    exact .inl ⟨⟨u, by rw [upd_ne ne]; exact e⟩, q.1, fun z => z.elim q.2 ne⟩
  · exact .inr h
mutual
theorem PR.hide {o : HO} {p : Addr} (n : H p = none) : ∀ {v : V} {x : PV}, PR M as H v x → PR M (as.hide p) (upd H p o) v x
  | _, _, .non => .non
  | _, _, .bl b => .bl b
  | _, _, .int i => .int i
  | _, _, .str y => .str y
  | _, _, .tup h t => .tup (h.hide n) (PRs.hide n t)
  | _, _, .lst h t => .lst (h.hide n) (PRs.hide n t)
  | _, _, .fro h t => .fro (h.hide n) (PRs.hide n t)
  | _, _, .glob h r => .glob h r
theorem PRs.hide {o : HO} {p : Addr} (n : H p = none) : ∀ {vs : List V} {ps : List PV}, PRs M as H vs ps → PRs M (as.hide p) (upd H p o) vs ps
  | _, _, .nil => .nil
  | _, _, .cons h t => .cons (PR.hide n h) (PRs.hide n t)
end
/-- H without p -/
def del (H : Hp) (p : Addr) : Hp := fun b => if b = p then none else H b
theorem del_same (H : Hp) (p : Addr) : del H p p = none := by unfold del; rw [if_pos rfl]
theorem del_ne {H : Hp} {p b : Addr} (h : b ≠ p) : del H p b = H b := by unfold del; rw [if_neg h]
theorem upd_del {H : Hp} {p : Addr} {o : HO} (h : H p = some o) : upd (del H p) p o = H := by
  funext b
  by_cases e : b = p
  · subst e; rw [upd_same, h]
  · rw [upd_ne e, del_ne e]
theorem del_upd {H : Hp} {p : Addr} {o : HO} (h : H p = none) : del (upd H p o) p = H := by
  funext b
  by_cases e : b = p
  · subst e; rw [del_same, h]
  · rw [del_ne e, upd_ne e]
theorem del_updu (H : Hp) (p : Addr) (o : HO) : del (upd H p o) p = del H p := by
  funext b
  by_cases e : b = p
  · subst e; rw [del_same, del_same]
  · rw [del_ne e, del_ne e, upd_ne e]
theorem Exw.hide {as1 as : As} {H1 H : Hp} {p : Addr} {o : HO} (x : Exw as1 H1 as H) (n1 : H1 p = none) : Exw as1 H1 (as.hide p) (upd H p o) :=
  ⟨x.more, fun a u e q => by
    obtain ⟨h1, h2⟩ := x.keep a u e q
    have ne : a ≠ p := ne_of_none e n1
    exact ⟨by rw [upd_ne ne]; exact h1, h2.1, fun z => z.elim h2.2 ne⟩⟩
mutual
theorem PR.unhide {as : As} {p : Addr} : ∀ {v : V} {x : PV}, PR M (as.hide p) H v x → PR M as (del H p) v x
  | _, _, .non => .non
  | _, _, .bl b => .bl b
  | _, _, .int i => .int i
  | _, _, .str y => .str y
  | _, _, .tup h t => .tup ⟨h.1, h.2.imp (fun ⟨e, q⟩ => ⟨by rw [del_ne fun z => q.2 (.inr z)]; exact e, q.1, fun z => q.2 (.inl z)⟩) id⟩ (PRs.unhide t)
  | _, _, .lst ⟨z, e, q⟩ t => .lst ⟨z, by rw [del_ne fun z => q.2 (.inr z)]; exact e, q.1, fun z => q.2 (.inl z)⟩ (PRs.unhide t)
  | _, _, .fro h t => .fro ⟨h.1, h.2.imp (fun ⟨⟨o, e⟩, q⟩ => ⟨⟨o, by rw [del_ne fun z => q.2 (.inr z)]; exact e⟩, q.1, fun z => q.2 (.inl z)⟩) id⟩ (PRs.unhide t)
  | _, _, .glob h r => .glob h r
theorem PRs.unhide {as : As} {p : Addr} : ∀ {vs : List V} {ps : List PV}, PRs M (as.hide p) H vs ps → PRs M as (del H p) vs ps
  | _, _, .nil => .nil
  | _, _, .cons h t => .cons (PR.unhide h) (PRs.unhide t)
end
theorem SR.hide {o : HO} {p : Addr} (h : SR M as H S) (n : H p = none) : SR M (as.hide p) (upd H p o) S := by
  refine ⟨h.len, h.nd, fun a ha z => ?_, fun a ha => ?_, fun i a c e1 e2 => ?_⟩
  · rcases z with z | z
    · exact h.apart a ha z
    · subst z; exact (h.fresh n).1 ha
  · rcases ha with ha | ha
    · obtain ⟨u, e⟩ := h.hidd a ha
      exact ⟨u, by rw [upd_ne (ne_of_none e n)]; exact e⟩
    · subst ha; exact ⟨o, upd_same⟩
  · have q := h.cell i a c e1 e2
    have ne : a ≠ p := fun z => (h.fresh n).1 (by rw [← z]; exact List.mem_of_getElem? e1)
    cases c with
    | lst ps =>
      obtain ⟨vs, z, e, t⟩ := q
      exact ⟨vs, z, by rw [upd_ne ne]; exact e, t.hide n⟩
    | nst ks =>
      obtain ⟨vs, z, e, t⟩ := q
      exact ⟨vs, z, by rw [upd_ne ne]; exact e, t⟩
theorem SR.unhide {as : As} {p : Addr} (h : SR M (as.hide p) H S) (np : ¬ as.hid p) : SR M as (del H p) S := by
  refine ⟨h.len, h.nd, fun a ha z => h.apart a ha (.inl z), fun a ha => ?_, fun i a c e1 e2 => ?_⟩
  · obtain ⟨u, e⟩ := h.hidd a (.inl ha)
    exact ⟨u, by rw [del_ne fun z => np (by rw [← z]; exact ha)]; exact e⟩
  · have q := h.cell i a c e1 e2
    have ne : a ≠ p := fun z => h.apart a (List.mem_of_getElem? e1) (.inr z)
    cases c with
    | lst ps =>
      obtain ⟨vs, z, e, t⟩ := q
      exact ⟨vs, z, by rw [del_ne ne]; exact e, t.unhide⟩
    | nst ks =>
      obtain ⟨vs, z, e, t⟩ := q
      exact ⟨vs, z, by rw [del_ne ne]; exact e, t⟩
theorem Ext.unhide {as as' : As} {p : Addr} {H H' : Hp} {o : HO} (n : H p = none) (np : ¬ as.hid p) (x : Ext (as.hide p) (upd H p o) as' H') : Ext as H ⟨as'.cells, as.hid⟩ (del H' p) ∧ as' = As.hide ⟨as'.cells, as.hid⟩ p ∧ H' p = some o := by
  have e1 : as' = As.hide ⟨as'.cells, as.hid⟩ p := by
    obtain ⟨c, h⟩ := as'
    have := x.hids
    simp only at this
    subst this
    rfl
  refine ⟨⟨x.more, rfl, fun a u e q => ?_, fun a u ha e => ?_⟩, e1, x.hkeep p o (.inr rfl) upd_same⟩
  · have ne : a ≠ p := ne_of_none e n
    obtain ⟨h1, h2⟩ := x.keep a u (by rw [upd_ne ne]; exact e) ⟨q.1, fun z => z.elim q.2 ne⟩
    rw [e1] at h2
    exact ⟨by rw [del_ne ne]; exact h1, h2.1, q.2⟩
  · have ne : a ≠ p := ne_of_none e n
    rw [del_ne ne]
    exact x.hkeep a u (.inl ha) (by rw [upd_ne ne]; exact e)
theorem ER.hide {o : HO} {p : Addr} (n : H p = none) (h : ER M as H σ δ) : ER M (as.hide p) (upd H p o) σ δ := ⟨h.len, fun i d e => by
  obtain ⟨v, q, r⟩ := h.get i d e
  refine ⟨v, q, ?_⟩
  cases d with
  | p x => exact PR.hide n r
  | c n => exact r⟩
/-- the items of a list or a tuple -/
def items : DV → AH → Option (List PV)
  | .p (.tup xs), _ => some xs
  | .p (.lst xs), _ => some xs
  | .p (.fro xs), _ => some xs
  | .c n, S => match S[n]? with
    | some (.lst xs) => some xs
    | _ => none
  | _, _ => none
theorem items_sq {d : DV} {v : V} {xs : List PV} (h : SR M as H S) (r : DVR M as H v d) (e : items d S = some xs) : ∃ a vs, v = .ref a ∧ vs.length ≤ sizeLine ∧ (SqL M.K H a vs ∨ SqT M.K H a vs) ∧ PRs M as H vs xs := by
  cases d with
  | p x =>
    cases x with
    | tup ys => cases e; cases r with | tup h t => exact ⟨_, _, rfl, h.1, .inr h.sq, t⟩
    | lst ys => cases e; cases r with | lst h t => exact ⟨_, _, rfl, h.1, .inl h.sq, t⟩
    | fro ys => cases e; cases r with | fro h t => exact ⟨_, _, rfl, h.1, .inl h.sq, t⟩
    | _ => cases e
  | c n =>
    obtain ⟨a, ea, rfl⟩ := r
    simp only [items] at e
    split at e
    · rename_i ys q
      cases e
      obtain ⟨b, vs, eb, z, hb, t⟩ := h.at q
      rw [ea] at eb; cases eb
      exact ⟨_, _, rfl, z, .inl (.of hb), t⟩
    · cases e
end

section
variable {M : Wd} {as : As} {H : Hp} {S : AH}
/-- the cells in a nest -/
def nitems : DV → AH → Option (List Nat)
  | .c n, S => match S[n]? with
    | some (.nst ks) => some ks
    | _ => none
  | _, _ => none
theorem nitems_sq {d : DV} {v : V} {ks : List Nat} (h : SR M as H S) (r : DVR M as H v d) (e : nitems d S = some ks) : ∃ a vs, v = .ref a ∧ vs.length ≤ sizeLine ∧ H a = some (.lst vs) ∧ KRs as vs ks := by
  cases d with
  | p x => cases e
  | c n =>
    obtain ⟨a, ea, rfl⟩ := r
    simp only [nitems] at e
    split at e
    · rename_i ys q
      cases e
      obtain ⟨b, vs, eb, z, hb, t⟩ := h.atN q
      rw [ea] at eb; cases eb
      exact ⟨_, _, rfl, z, hb, t⟩
    · cases e
theorem KRs.length {vs : List V} {ks : List Nat} (h : KRs as vs ks) : vs.length = ks.length := Paired.length h
theorem KRs.get : ∀ {vs : List V} {ks : List Nat} {i k : Nat}, KRs as vs ks → ks[i]? = some k → ∃ v, vs[i]? = some v ∧ ∃ b, as.cells[k]? = some b ∧ v = .ref b
  | _, _, i, k, .nil, e => by simp at e
  | _, _, 0, k, .cons h _, e => by simp at e; subst e; exact ⟨_, rfl, h⟩
  | _, _, i + 1, k, .cons _ t, e => by
    obtain ⟨v, h1, h2⟩ := KRs.get (i := i) (k := k) t (by simpa using e)
    exact ⟨v, by simpa using h1, h2⟩
theorem KRs.append : ∀ {vs ws : List V} {ks ls : List Nat}, KRs as vs ks → KRs as ws ls → KRs as (vs ++ ws) (ks ++ ls)
  | _, _, _, _, .nil, s => s
  | _, _, _, _, .cons r t, s => .cons r (KRs.append t s)
theorem KRs.set {v : V} {k : Nat} (r : ∃ b, as.cells[k]? = some b ∧ v = .ref b) : ∀ {vs : List V} {ks : List Nat} (i : Nat), KRs as vs ks → KRs as (vs.set i v) (ks.set i k)
  | _, _, _, .nil => .nil
  | _, _, 0, .cons _ t => .cons r t
  | _, _, i + 1, .cons q t => .cons q (KRs.set r i t)
end
/-! ### what is wanted behind a result -/
def ExR (M : Wd) (as : As) (H : Hp) (c : Str) (p : List (Str × PV)) (cls : Value) (dd : Option Addr) : Prop :=
  M.mg c = some cls ∧ (p = [] → dd = none) ∧ (p ≠ [] → ∃ d fs, dd = some d ∧ as.off d ∧ H d = some (.xd fs) ∧ Paired (fun (f : Str × V) (g : Str × PV) => f.1 = g.1 ∧ PR M as H f.2 g.2) fs p)
def WR {α β : Type} (M : Wd) (E : XK) (R : As → Hp → β → α → Prop) (as : As) (H : Hp) (r : Res α) (Q : β → Hp → Prop) : Prop := match r with
  | .ok a S' => ∀ as' H' b, Ext as H as' H' → SR M as' H' S' → R as' H' b a → Q b H'
  | .exc c p S' => ∀ as' H' cls dd, Ext as H as' H' → SR M as' H' S' → ExR M as' H' c p cls dd → E cls dd H'
  | .bad => False
section
variable {α β γ ε : Type} {M : Wd} {E : XK} {R : As → Hp → β → α → Prop} {R2 : As → Hp → ε → γ → Prop} {as as' : As} {H H' : Hp}
theorem WR.later {r : Res α} {Q : β → Hp → Prop} (x : Ext as H as' H') (w : WR M E R as H r Q) : WR M E R as' H' r Q := by
  cases r with
  | ok a S => exact fun as2 H2 b e => w as2 H2 b (x.trans e)
  | exc c p S => exact fun as2 H2 cls dd e => w as2 H2 cls dd (x.trans e)
  | bad => exact w
theorem WR.mono {r : Res α} {Q Q' : β → Hp → Prop} (w : WR M E R as H r Q) (h : ∀ a S as' H' b, r = .ok a S → Ext as H as' H' → SR M as' H' S → R as' H' b a → Q b H' → Q' b H') : WR M E R as H r Q' := by
  cases r with
  | ok a S => exact fun as2 H2 b e s q => h a S as2 H2 b rfl e s q (w as2 H2 b e s q)
  | exc c p S => exact w
  | bad => exact w
theorem WR.bind {r : Res α} {k : α → AH → Res γ} {Q : ε → Hp → Prop} (w : WR M E R2 as H (r.bind k) Q) :
    WR M E R as H r (fun b H1 => ∃ as1 S1 a, r = .ok a S1 ∧ Ext as H as1 H1 ∧ SR M as1 H1 S1 ∧ R as1 H1 b a ∧ WR M E R2 as1 H1 (k a S1) Q) := by
  cases r with
  | ok a S => exact fun as2 H2 b e s q => ⟨as2, S, a, rfl, e, s, q, WR.later e w⟩
  | exc c p S => exact w
  | bad => exact w
theorem WR.pure {a : α} {S : AH} {Q : β → Hp → Prop} (w : WR M E R as H (.ok a S) Q) {b : β} (s : SR M as H S) (r : R as H b a) : Q b H := w as H b (Ext.refl _ _) s r
end
end DL
namespace DL
noncomputable section
open PySem PySem.Spec PyProof.Rows L2

/-! ### judgements -/
abbrev wd (X : Cx) : Wd := ⟨X.K, X.mg⟩
def RB {β : Type} : As → Hp → β → β → Prop := fun _ _ a b => a = b
def tD (M : Wd) (E : L2.St → XK) (f : Sig → AH → Res DV) : TE := fun σ H Q => ∃ as δ S, SR M as H S ∧ ER M as H σ δ ∧ WR M (E σ) (DVR M) as H (f δ S) Q
def tDT (M : Wd) (E : L2.St → XK) (f : Sig → AH → Res Bool) : TT := fun σ H Q => ∃ as δ S, SR M as H S ∧ ER M as H σ δ ∧ WR M (E σ) RB as H (f δ S) Q
def tDA (M : Wd) (E : L2.St → XK) (f : Sig → AH → Res (List DV)) : TA := fun σ H Q => ∃ as δ S, SR M as H S ∧ ER M as H σ δ ∧ WR M (E σ) (DVRs M) as H (f δ S) Q
abbrev DE (X : Cx) (E : L2.St → XK) (e : Expr) (f : Sig → AH → Res DV) : Prop := PE X e (tD (wd X) E f)
abbrev DT (X : Cx) (E : L2.St → XK) (e : Expr) (f : Sig → AH → Res Bool) : Prop := PT X e (tDT (wd X) E f)
abbrev DW (X : Cx) (E : L2.St → XK) (e : Expr) (f : Sig → AH → Res Bool) : Prop := PW X e (tDT (wd X) E f)
abbrev DA (X : Cx) (E : L2.St → XK) (es : List Expr) (f : Sig → AH → Res (List DV)) : Prop := PA X es (tDA (wd X) E f)
theorem _root_.L2.PE.imp {X : Cx} {e : Expr} {t t' : TE} (h : PE X e t) (i : ∀ σ H Q, t' σ H Q → t σ H Q) : PE X e t' := ⟨fun pins s σ H Q I q => h.run pins s σ H Q I (i σ H Q q)⟩
theorem _root_.L2.PT.imp {X : Cx} {e : Expr} {t t' : TT} (h : PT X e t) (i : ∀ σ H Q, t' σ H Q → t σ H Q) : PT X e t' := ⟨fun pins s σ H Q I q => h.run pins s σ H Q I (i σ H Q q)⟩
theorem _root_.L2.PW.imp {X : Cx} {e : Expr} {t t' : TT} (h : PW X e t) (i : ∀ σ H Q, t' σ H Q → t σ H Q) : PW X e t' := ⟨fun wh pins s σ H Q I q => h.run wh pins s σ H Q I (i σ H Q q)⟩
theorem _root_.L2.PA.imp {X : Cx} {e : List Expr} {t t' : TA} (h : PA X e t) (i : ∀ σ H Q, t' σ H Q → t σ H Q) : PA X e t' := ⟨fun pos pins s σ H Q I q => h.run pos pins s σ H Q I (i σ H Q q)⟩

/-! ### operations on values -/
abbrev Op1 := DV → AH → Option (DV × AH)
abbrev Op2 := DV → DV → AH → Option (DV × AH)
abbrev OpN := List DV → AH → Option (DV × AH)
def lift {α : Type} : Option (α × AH) → Res α
  | some (d, S) => .ok d S
  | none => .bad
@[simp] theorem lift_some {α : Type} (d : α) (S : AH) : lift (some (d, S)) = .ok d S := rfl
@[simp] theorem lift_none {α : Type} : lift (none : Option (α × AH)) = .bad := rfl
def WO (M : Wd) (as : As) (H : Hp) (r : Option (DV × AH)) (Q : VK) : Prop := match r with
  | some (d, S') => ∀ as' H' b, Ext as H as' H' → SR M as' H' S' → DVR M as' H' b d → Q b H'
  | none => False
theorem WR.wo {M : Wd} {E : XK} {as : As} {H : Hp} {r : Option (DV × AH)} {Q : VK} (w : WR M E (DVR M) as H (lift r) Q) : WO M as H r Q := by
  cases r with
  | some p => exact w
  | none => exact w
def rO (M : Wd) (o : Op2) : R2 := fun x y H Q => ∃ as S d1 d2, SR M as H S ∧ DVR M as H x d1 ∧ DVR M as H y d2 ∧ WO M as H (o d1 d2 S) Q
def rO1 (M : Wd) (o : Op1) : V → Hp → VK → Prop := fun x H Q => ∃ as S d1, SR M as H S ∧ DVR M as H x d1 ∧ WO M as H (o d1 S) Q
def rON (M : Wd) (o : OpN) : List V → Hp → VK → Prop := fun vs H Q => ∃ as S ds, SR M as H S ∧ DVRs M as H vs ds ∧ WO M as H (o ds S) Q
/-- a value without a new object -/
theorem WO.here {M : Wd} {as : As} {H : Hp} {S : AH} {d : DV} {Q : VK} {v : V} (w : WO M as H (some (d, S)) Q) (s : SR M as H S) (r : DVR M as H v d) : Q v H := w as H v (Ext.refl _ _) s r
theorem WO.tup {M : Wd} {as : As} {H : Hp} {S : AH} {ps : List PV} {vs : List V} {Q : VK} {p : Addr} (w : WO M as H (some (.p (.tup ps), S)) Q) (s : SR M as H S) (z : vs.length ≤ sizeLine) (r : PRs M as H vs ps) (n : H p = none) : Q (.ref p) (upd H p (.tup vs)) :=
  w as _ _ (ext_new s n) (s.new n) (.tup ⟨z, .inl ⟨upd_same, s.fresh n⟩⟩ (r.mono (ext_new s n).w))
theorem WO.lst {M : Wd} {as : As} {H : Hp} {S : AH} {ps : List PV} {vs : List V} {Q : VK} {p : Addr} (w : WO M as H (some (.p (.lst ps), S)) Q) (s : SR M as H S) (z : vs.length ≤ sizeLine) (r : PRs M as H vs ps) (n : H p = none) : Q (.ref p) (upd H p (.lst vs)) :=
  w as _ _ (ext_new s n) (s.new n) (.lst ⟨z, upd_same, s.fresh n⟩ (r.mono (ext_new s n).w))
/-- the items of a list -/
def lstOf : DV → AH → Option (List PV)
  | .p (.lst xs), _ => some xs
  | .c n, S => match S[n]? with
    | some (.lst xs) => some xs
    | _ => none
  | _, _ => none
theorem lstOf_at {M : Wd} {as : As} {H : Hp} {S : AH} {d : DV} {v : V} {xs : List PV} (h : SR M as H S) (r : DVR M as H v d) (e : lstOf d S = some xs) : ∃ a vs, v = .ref a ∧ vs.length ≤ sizeLine ∧ H a = some (.lst vs) ∧ PRs M as H vs xs := by
  cases d with
  | p x =>
    cases x with
    | lst ys => cases e; cases r with | lst h t => exact ⟨_, _, rfl, h.1, h.2.1, t⟩
    | _ => cases e
  | c n =>
    obtain ⟨a, ea, rfl⟩ := r
    simp only [lstOf] at e
    split at e
    · rename_i ys q
      cases e
      obtain ⟨b, vs, eb, z, hb, t⟩ := h.at q
      rw [ea] at eb; cases eb
      exact ⟨_, _, rfl, z, hb, t⟩
    · cases e
def addO : Op2 := fun a b S => match a, b with
  | .p (.int i), .p (.int j) => some (.p (.int (i + j)), S)
  | .p (.str x), .p (.str y) => if x.length + y.length ≤ sizeLine then some (.p (.str (x ++ y)), S) else none
  | .p (.tup xs), .p (.tup ys) => if xs.length + ys.length ≤ sizeLine then some (.p (.tup (xs ++ ys)), S) else none
  | _, _ => match lstOf a S, lstOf b S with
    | some xs, some ys => if xs.length + ys.length ≤ sizeLine then some (.p (.lst (xs ++ ys)), S) else none
    | _, _ => none
def subO : Op2 := fun a b S => match a, b with
  | .p (.int i), .p (.int j) => some (.p (.int (i - j)), S)
  | _, _ => none
def mulOk (i j : Int) : Prop := ((-(2 ^ 64) < i ∧ i < 2 ^ 64) ∨ (-(2 ^ 64) < j ∧ j < 2 ^ 64)) ∨ i.natAbs.log2 + j.natAbs.log2 < 1000000
noncomputable instance (i j : Int) : Decidable (mulOk i j) := Classical.propDecidable _
def mulO : Op2 := fun a b S => match a, b with
  | .p (.int i), .p (.int j) => if mulOk i j then some (.p (.int (i * j)), S) else none
  | .p (.tup xs), .p (.int k) => if xs ≠ [] ∧ 2 ≤ k ∧ k ≤ 1000 ∧ xs.length ≤ 1000 then some (.p (.tup (List.replicate k.toNat xs).flatten), S) else none
  | _, _ => none
def divOk (j : Int) : Prop := 0 < j ∧ j.natAbs.log2 < 9000
noncomputable instance (j : Int) : Decidable (divOk j) := Classical.propDecidable _
def divO : Op2 := fun a b S => match a, b with
  | .p (.int i), .p (.int j) => if divOk j then some (.p (.int (i / j)), S) else none
  | _, _ => none
def modO : Op2 := fun a b S => match a, b with
  | .p (.int i), .p (.int j) => if 0 < j then some (.p (.int (i % j)), S) else none
  | _, _ => none
def powOk (i j : Int) : Prop := 0 ≤ j ∧ j ≤ 1000000 ∧ i.natAbs < 2 ^ 64
noncomputable instance (i j : Int) : Decidable (powOk i j) := Classical.propDecidable _
def powO : Op2 := fun a b S => match a, b with
  | .p (.int i), .p (.int j) => if powOk i j then some (.p (.int (i ^ j.toNat)), S) else none
  | _, _ => none
section
variable {X : Cx}
theorem ow_add : OpR X (binaryOp .Add) (rO (wd X) addO) := by
  intro pins s σ H x y v u Q I rx ry h
  obtain ⟨as, S, d1, d2, sr, r1, r2, w⟩ := h
  unfold addO at w
  split at w
  · cases r1; cases r2
    exact op_add pins s σ H _ _ v u Q I rx ry ⟨_, _, rfl, rfl, w.here sr (.int _)⟩
  · cases r1; cases r2
    split at w
    · rename_i z
      exact op_add_str pins s σ H _ _ v u Q I rx ry ⟨_, _, rfl, rfl, z, w.here sr (.str _)⟩
    · exact w.elim
  · cases r1 with
    | tup h1 t1 =>
      cases r2 with
      | tup h2 t2 =>
        split at w
        · rename_i z
          have z2 : _ ≤ _ := z
          rw [← t1.length, ← t2.length] at z2
          refine op_catA pins s σ H _ _ v u Q I rx ry ⟨_, _, _, _, rfl, rfl, h1.sq, h2.sq, z2, fun e => ?_, fun e e2 => ?_, fun e e2 p n => ?_⟩
          · subst e
            cases t1
            exact w.here sr (.tup h2 t2)
          · subst e2
            cases t2
            rw [List.append_nil] at w
            exact w.here sr (.tup h1 t1)
          · exact w.tup sr (by rw [List.length_append]; exact z2) (t1.append t2) n
        · exact w.elim
  · split at w
    · rename_i xs ys e1 e2
      obtain ⟨a, vs, rfl, z1, h1, t1⟩ := lstOf_at sr r1 e1
      obtain ⟨b, ws, rfl, z2, h2, t2⟩ := lstOf_at sr r2 e2
      split at w
      · rename_i z
        rw [← t1.length, ← t2.length] at z
        exact op_cat pins s σ H _ _ v u Q I rx ry ⟨_, _, _, _, rfl, rfl, h1, h2, z, fun p n => w.lst sr (by rw [List.length_append]; exact z) (t1.append t2) n⟩
      · exact w.elim
    · exact w.elim
theorem ow_sub : OpR X (binaryOp .Sub) (rO (wd X) subO) := by
  intro pins s σ H x y v u Q I rx ry h
  obtain ⟨as, S, d1, d2, sr, r1, r2, w⟩ := h
  unfold subO at w
  split at w
  · cases r1; cases r2
    exact op_sub pins s σ H _ _ v u Q I rx ry ⟨_, _, rfl, rfl, w.here sr (.int _)⟩
  · exact w.elim
theorem PRs.rep {M : Wd} {as : As} {H : Hp} {vs : List V} {ps : List PV} (h : PRs M as H vs ps) : ∀ k : Nat, PRs M as H (List.replicate k vs).flatten (List.replicate k ps).flatten
  | 0 => .nil
  | k + 1 => by
    rw [List.replicate_succ, List.replicate_succ, List.flatten_cons, List.flatten_cons]
    exact PRs.append h (PRs.rep h k)
theorem ow_mul : OpR X (binaryOp .Mult) (rO (wd X) mulO) := by
  intro pins s σ H x y v u Q I rx ry h
  obtain ⟨as, S, d1, d2, sr, r1, r2, w⟩ := h
  unfold mulO at w
  split at w
  · cases r1; cases r2
    split at w
    · rename_i z
      rcases z with z | z
      · exact op_mul pins s σ H _ _ v u Q I rx ry ⟨_, _, rfl, rfl, z, w.here sr (.int _)⟩
      · exact op_mulW pins s σ H _ _ v u Q I rx ry ⟨_, _, rfl, rfl, z, w.here sr (.int _)⟩
    · exact w.elim
  · cases r2
    cases r1 with
    | tup h1 t1 =>
      split at w
      · rename_i z
        obtain ⟨z1, z2, z3, z4⟩ := z
        have hl := t1.length
        refine op_repT pins s σ H _ _ v u Q I rx ry ⟨_, _, _, rfl, rfl, h1.sq, fun e => ?_, z2, z3, by omega, fun p n => w.tup sr ?_ (t1.rep _) n⟩
        · subst e
          cases t1
          exact z1 rfl
        · rw [PyProof.Rows.lm_len_rep_flat, sizeLine_eq]
          refine Nat.le_trans (m := 1000 * 1000) (Nat.mul_le_mul ?_ ?_) (by decide)
          · omega
          · omega
      · exact w.elim
  · exact w.elim
theorem ow_div : OpR X (binaryOp .FloorDiv) (rO (wd X) divO) := by
  intro pins s σ H x y v u Q I rx ry h
  obtain ⟨as, S, d1, d2, sr, r1, r2, w⟩ := h
  unfold divO at w
  split at w
  · cases r1; cases r2
    split at w
    · rename_i z
      exact op_fdivW pins s σ H _ _ v u Q I rx ry ⟨_, _, rfl, rfl, z, w.here sr (.int _)⟩
    · exact w.elim
  · exact w.elim
theorem ow_mod : OpR X (binaryOp .Mod) (rO (wd X) modO) := by
  intro pins s σ H x y v u Q I rx ry h
  obtain ⟨as, S, d1, d2, sr, r1, r2, w⟩ := h
  unfold modO at w
  split at w
  · cases r1; cases r2
    split at w
    · rename_i z
      exact op_mod pins s σ H _ _ v u Q I rx ry ⟨_, _, rfl, rfl, z, w.here sr (.int _)⟩
    · exact w.elim
  · exact w.elim
theorem ow_pow : OpR X (binaryOp .Pow) (rO (wd X) powO) := by
  intro pins s σ H x y v u Q I rx ry h
  obtain ⟨as, S, d1, d2, sr, r1, r2, w⟩ := h
  unfold powO at w
  split at w
  · cases r1; cases r2
    split at w
    · rename_i z
      exact op_pow pins s σ H _ _ v u Q I rx ry ⟨_, _, rfl, rfl, z, w.here sr (.int _)⟩
    · exact w.elim
  · exact w.elim
def negO : Op1 := fun a S => match a with
  | .p (.int i) => some (.p (.int (-i)), S)
  | _ => none
theorem ow_neg : UnR X (unaryOp .USub) (rO1 (wd X) negO) := by
  intro pins s σ H x v Q I rx h
  obtain ⟨as, S, d1, sr, r1, w⟩ := h
  unfold negO at w
  split at w
  · cases r1
    exact un_neg pins s σ H _ v Q I rx ⟨_, rfl, w.here sr (.int _)⟩
  · exact w.elim
end

/-! ### comparisons -/
def cmpO (p : Int → Int → Bool) : Op2 := fun a b S => match a, b with
  | .p (.int i), .p (.int j) => some (.p (.bl (p i j)), S)
  | _, _ => none
mutual
/-- a value as data -/
def PV.data : PV → Option PyData
  | .non => some .none
  | .bl b => some (.bool b)
  | .int i => some (.int i)
  | .str x => some (.str x)
  | .tup xs => (PV.datas xs).map .tuple
  | .lst xs => (PV.datas xs).map .list
  | .fro xs => (PV.datas xs).map .list
  | .glob _ => none
def PV.datas : List PV → Option (List PyData)
  | [] => some []
  | x :: xs => (PV.data x).bind fun d => (PV.datas xs).map fun ds => d :: ds
end
def eqDat (d e : PyData) : Option Bool := if SeqAt.shaped d = true ∧ SeqAt.shaped e = true then some (PyData.eqv d e) else none
def dataOf : DV → AH → Option PyData
  | .p x, _ => x.data
  | .c n, S => match S[n]? with
    | some (.lst xs) => (PV.datas xs).map .list
    | _ => none
def eqO : Op2 := fun a b S => match dataOf a S, dataOf b S with
  | some d, some e => (eqDat d e).map fun k => (.p (.bl k), S)
  | _, _ => none
def neO : Op2 := fun a b S => match dataOf a S, dataOf b S with
  | some d, some e => (eqDat d e).map fun k => (.p (.bl (!k)), S)
  | _, _ => none
def isO : Op2 := fun a b S => match a, b with
  | .p x, .p .non => match x with
    | .non => some (.p (.bl true), S)
    | .glob _ => none
    | _ => some (.p (.bl false), S)
  | .p (.bl a), .p (.bl b) => some (.p (.bl (decide (a = b))), S)
  | _, _ => none
def isNotO : Op2 := fun a b S => match a, b with
  | .p x, .p .non => match x with
    | .non => some (.p (.bl false), S)
    | .glob _ => none
    | _ => some (.p (.bl true), S)
  | .p (.bl a), .p (.bl b) => some (.p (.bl (!decide (a = b))), S)
  | _, _ => none
section
variable {X : Cx}
theorem ow_cmp {op : CmpOp} {p : Int → Int → Bool} (h0 : OpR X (compareOp op) (rI0 fun i j => .bl (p i j))) : OpR X (compareOp op) (rO (wd X) (cmpO p)) := by
  intro pins s σ H x y v u Q I rx ry h
  obtain ⟨as, S, d1, d2, sr, r1, r2, w⟩ := h
  unfold cmpO at w
  split at w
  · cases r1; cases r2
    exact h0 pins s σ H _ _ v u Q I rx ry ⟨_, _, rfl, rfl, w.here sr (.bl _)⟩
  · exact w.elim
theorem ow_lt : OpR X (compareOp .Lt) (rO (wd X) (cmpO fun i j => decide (i < j))) := ow_cmp op_lt
theorem ow_le : OpR X (compareOp .LtE) (rO (wd X) (cmpO fun i j => decide (i ≤ j))) := ow_cmp op_le
theorem ow_gt : OpR X (compareOp .Gt) (rO (wd X) (cmpO fun i j => decide (j < i))) := ow_cmp op_gt
theorem ow_ge : OpR X (compareOp .GtE) (rO (wd X) (cmpO fun i j => decide (j ≤ i))) := ow_cmp op_ge
end
section
variable {M : Wd} {as : As} {H : Hp}
mutual
theorem PR.dp : ∀ {v : V} {p : PV} {d : PyData}, PR M as H v p → p.data = some d → Dp M.K H v d
  | _, _, _, .non, e => by simp [PV.data] at e; subst e; exact .non
  | _, _, _, .bl b, e => by simp [PV.data] at e; subst e; exact .bl b
  | _, _, _, .int i, e => by simp [PV.data] at e; subst e; exact .int i
  | _, _, _, .str x, e => by simp [PV.data] at e; subst e; exact .str x
  | _, _, _, .tup h t, e => by
    simp only [PV.data, Option.map_eq_some_iff] at e
    obtain ⟨ds, e1, rfl⟩ := e
    exact .tup h.sq (PRs.dp t e1)
  | _, _, _, .lst h t, e => by
    simp only [PV.data, Option.map_eq_some_iff] at e
    obtain ⟨ds, e1, rfl⟩ := e
    exact .lst h.sq (PRs.dp t e1)
  | _, _, _, .fro h t, e => by
    simp only [PV.data, Option.map_eq_some_iff] at e
    obtain ⟨ds, e1, rfl⟩ := e
    exact .lst h.sq (PRs.dp t e1)
  | _, _, _, .glob _ _, e => by simp [PV.data] at e
theorem PRs.dp : ∀ {vs : List V} {ps : List PV} {ds : List PyData}, PRs M as H vs ps → PV.datas ps = some ds → DpAll M.K H vs ds
  | _, _, _, .nil, e => by simp [PV.datas] at e; subst e; exact .nil
  | _, _, _, .cons h t, e => by
    simp only [PV.datas, Option.bind_eq_some_iff, Option.map_eq_some_iff] at e
    obtain ⟨d, e1, ds, e2, rfl⟩ := e
    exact .cons (PR.dp h e1) (PRs.dp t e2)
end
theorem dataOf_dp {S : AH} (sr : SR M as H S) {v : V} {d : DV} {x : PyData} (r : DVR M as H v d) (e : dataOf d S = some x) : Dp M.K H v x := by
  cases d with
  | p y => exact PR.dp r e
  | c n =>
    obtain ⟨a, ea, rfl⟩ := r
    simp only [dataOf] at e
    split at e
    · rename_i xs q
      obtain ⟨b, vs, eb, z, hb, t⟩ := sr.at q
      rw [ea] at eb; cases eb
      simp only [Option.map_eq_some_iff] at e
      obtain ⟨ds, e1, rfl⟩ := e
      exact .lst (.of hb) (PRs.dp t e1)
    · cases e
end
section
variable {X : Cx}
theorem ow_eq (hu : X.A.units + 64 < cLine) : OpR X (compareOp .Eq) (rO (wd X) eqO) := by
  intro pins s σ H x y v u Q I rx ry h
  obtain ⟨as, S, d1, d2, sr, r1, r2, w⟩ := h
  unfold eqO at w
  split at w
  · rename_i d e q1 q2
    unfold eqDat at w
    split at w
    · rename_i z
      exact op_eqD hu pins s σ H _ _ v u Q I rx ry ⟨d, e, dataOf_dp sr r1 q1, dataOf_dp sr r2 q2, z.1, z.2, w.here sr (.bl _)⟩
    · exact w.elim
  · exact w.elim
theorem ow_ne (hu : X.A.units + 64 < cLine) : OpR X (compareOp .NotEq) (rO (wd X) neO) := by
  intro pins s σ H x y v u Q I rx ry h
  obtain ⟨as, S, d1, d2, sr, r1, r2, w⟩ := h
  unfold neO at w
  split at w
  · rename_i d e q1 q2
    unfold eqDat at w
    split at w
    · rename_i z
      exact op_neD hu pins s σ H _ _ v u Q I rx ry ⟨d, e, dataOf_dp sr r1 q1, dataOf_dp sr r2 q2, z.1, z.2, w.here sr (.bl _)⟩
    · exact w.elim
  · exact w.elim
theorem PR.nonD {M : Wd} {as : As} {H : Hp} {v : V} {p : PV} (r : PR M as H v p) (n1 : p ≠ .non) (n2 : ∀ g, p ≠ .glob g) : v ≠ .non := by
  cases r with
  | non => exact absurd rfl n1
  | glob _ _ => exact absurd rfl (n2 _)
  | _ => exact fun z => nomatch z
theorem ow_is : OpR X (compareOp .Is) (rO (wd X) isO) := by
  intro pins s σ H x y v u Q I rx ry h
  obtain ⟨as, S, d1, d2, sr, r1, r2, w⟩ := h
  unfold isO at w
  split at w
  · cases r2
    split at w
    · cases r1
      exact op_isN pins s σ H _ _ v u Q I rx ry ⟨rfl, w.here sr (.bl _)⟩
    · exact w.elim
    · rename_i n1 n2
      have e := PR.nonD r1 (fun z => n1 z) (fun g z => n2 g z)
      refine op_isN pins s σ H _ _ v u Q I rx ry ⟨rfl, ?_⟩
      rw [decide_eq_false e]
      exact w.here sr (.bl _)
  · cases r1; cases r2
    exact op_isBl pins s σ H _ _ v u Q I rx ry ⟨_, _, rfl, rfl, w.here sr (.bl _)⟩
  · exact w.elim
theorem ow_isNot : OpR X (compareOp .IsNot) (rO (wd X) isNotO) := by
  intro pins s σ H x y v u Q I rx ry h
  obtain ⟨as, S, d1, d2, sr, r1, r2, w⟩ := h
  unfold isNotO at w
  split at w
  · cases r2
    split at w
    · cases r1
      exact op_notN pins s σ H _ _ v u Q I rx ry ⟨rfl, w.here sr (.bl _)⟩
    · exact w.elim
    · rename_i n1 n2
      have e := PR.nonD r1 (fun z => n1 z) (fun g z => n2 g z)
      refine op_notN pins s σ H _ _ v u Q I rx ry ⟨rfl, ?_⟩
      rw [decide_eq_false e]
      exact w.here sr (.bl _)
  · cases r1; cases r2
    exact op_notBl pins s σ H _ _ v u Q I rx ry ⟨_, _, rfl, rfl, w.here sr (.bl _)⟩
  · exact w.elim
end

/-! ### expressions -/
def dVar (i : Nat) : Sig → AH → Res DV := fun δ S => match δ[i]? with
  | some (some d) => .ok d S
  | _ => .bad
def dC (v : PV) : Sig → AH → Res DV := fun _ S => .ok (.p v) S
def dUn (o : Op1) (fa : Sig → AH → Res DV) : Sig → AH → Res DV := fun δ S => (fa δ S).bind fun a S => lift (o a S)
def dBin (o : Op2) (fa fb : Sig → AH → Res DV) : Sig → AH → Res DV := fun δ S => (fa δ S).bind fun a S => (fb δ S).bind fun b S => lift (o a b S)
def dNil : Sig → AH → Res (List DV) := fun _ S => .ok [] S
def dCons (fa : Sig → AH → Res DV) (fr : Sig → AH → Res (List DV)) : Sig → AH → Res (List DV) := fun δ S => (fa δ S).bind fun a S => (fr δ S).bind fun r S => .ok (a :: r) S
def dApp (o : OpN) (fa : Sig → AH → Res (List DV)) : Sig → AH → Res DV := fun δ S => (fa δ S).bind fun ds S => lift (o ds S)
section
variable {X : Cx} {E : L2.St → XK} {a b c : Expr} {es : List Expr} {pos : Pos} {fa fb fc : Sig → AH → Res DV} {fs : Sig → AH → Res (List DV)}
theorem de_var (i : Nat) {x : Str} (hN : X.N[i]? = some x := by rfl) (hv : Vis X.env.scope x := by first | exact Or.inl rfl | exact Or.inr (Or.inl rfl) | exact Or.inr (Or.inr rfl)) (hd : (x == ("__debug__" : Str)) = false := by decide)
    (hcd : (x == ("__classdict__" : Str)) = false := by decide) : DE X E (.Name x pos) (dVar i) := (pe_var hN hv hd hcd).imp fun σ H Q ⟨as, δ, S, sr, er, w⟩ => by
  unfold dVar at w
  split at w
  · rename_i d e
    obtain ⟨v, q, r⟩ := er.get i d e
    exact ⟨v, q, w.pure sr r⟩
  · exact w.elim
theorem de_con {v : V} {p : PV} (h : PE X a (tC v)) (r : ∀ as H, PR (wd X) as H v p) : DE X E a (dC p) := h.imp fun σ H Q ⟨as, δ, S, sr, er, w⟩ => WR.pure (b := v) w sr (r as H)
theorem de_int {i j} : DE X E (.Constant (.int i) j pos) (dC (.int i)) := de_con pe_int fun _ _ => .int _
theorem de_bl {i j} : DE X E (.Constant (.bool i) j pos) (dC (.bl i)) := de_con pe_bl fun _ _ => .bl _
theorem de_non {j} : DE X E (.Constant .none j pos) (dC .non) := de_con pe_non fun _ _ => .non
theorem de_str {x j} : DE X E (.Constant (.str x) j pos) (dC (.str x)) := de_con pe_str fun _ _ => .str _
/-- a constant of the module -/
theorem de_gint {x : Str} {i : Int} {t : Tok} (hg : Gl X x) (hm : X.mg x = some (.int i t)) (hd : (x == ("__debug__" : Str)) = false := by decide) : DE X E (.Name x pos) (dC (.int i)) := de_con (pe_glob (v := .int i) hg hm ⟨_, rfl⟩ hd) fun _ _ => .int _
/-- a def or a class of the module as a value -/
theorem de_glob {x : Str} {p : Addr} (hg : Gl X x) (hm : X.mg x = some (.ref p)) (hd : (x == ("__debug__" : Str)) = false := by decide) : DE X E (.Name x pos) (dC (.glob x)) := de_con (pe_glob (v := .ref p) hg hm rfl hd) fun _ _ => .glob hm rfl
theorem de_un {op : UnaryOp} {o : Op1} (ho : UnR X (unaryOp op) (rO1 (wd X) o)) (ha : DE X E a fa) : DE X E (.UnaryOp op a pos) (dUn o fa) := (pe_un ho ha).imp fun σ H Q ⟨as, δ, S, sr, er, w⟩ =>
  ⟨as, δ, S, sr, er, w.bind.mono fun _ _ _ _ _ _ _ _ _ ⟨as1, S1, d1, _, x1, s1, r1, w1⟩ => ⟨as1, S1, d1, s1, r1, w1.wo⟩⟩
theorem t2 {o : Op2} {σ : L2.St} {H : Hp} {Q : VK} {as : As} {δ : Sig} {S : AH} (sr : SR (wd X) as H S) (er : ER (wd X) as H σ δ) (w : WR (wd X) (E σ) (DVR (wd X)) as H (dBin o fa fb δ S) Q) : tOp (rO (wd X) o) (tD (wd X) E fa) (tD (wd X) E fb) σ H Q :=
  ⟨as, δ, S, sr, er, w.bind.mono fun _ _ _ _ _ _ _ _ _ ⟨as1, S1, d1, _, x1, s1, r1, w1⟩ => ⟨as1, δ, S1, s1, er.mono x1.w, w1.bind.mono fun _ _ _ _ _ _ _ _ _ ⟨as2, S2, d2, _, x2, s2, r2, w2⟩ => ⟨as2, S2, d1, d2, s2, r1.mono x2.w, r2, w2.wo⟩⟩⟩
theorem de_bin {op : Operator} {o : Op2} (ho : OpR X (binaryOp op) (rO (wd X) o)) (ha : DE X E a fa) (hb : DE X E b fb) : DE X E (.BinOp a op b pos) (dBin o fa fb) := (pe_op ho ha hb).imp fun σ H Q ⟨as, δ, S, sr, er, w⟩ => t2 sr er w
theorem de_cmp {op : CmpOp} {o : Op2} (ho : OpR X (compareOp op) (rO (wd X) o)) (ha : DE X E a fa) (hb : DE X E b fb) (hm : behindInMarks op b = false) : DE X E (.Compare a [op] [b] pos) (dBin o fa fb) := (pe_cmpR ho ha hb hm).imp fun σ H Q ⟨as, δ, S, sr, er, w⟩ => t2 sr er w
theorem da_nil : DA X E [] dNil := pa_nil.imp fun σ H Q ⟨as, δ, S, sr, er, w⟩ => WR.pure (b := ([] : List V)) w sr .nil
theorem da_cons (ha : DE X E a fa) (hr : DA X E es fs) (hs : starEach (a :: es) X.env = (false, eval a X.env) :: starEach es X.env := by rfl) : DA X E (a :: es) (dCons fa fs) := (pa_cons ha hr hs).imp fun σ H Q ⟨as, δ, S, sr, er, w⟩ =>
  ⟨as, δ, S, sr, er, w.bind.mono fun x _ _ _ _ _ _ _ _ ⟨as1, S1, d1, _, x1, s1, r1, w1⟩ => ⟨as1, δ, S1, s1, er.mono x1.w, w1.bind.mono fun _ _ _ _ _ _ _ _ _ ⟨as2, S2, ds, _, x2, s2, r2, w2⟩ => WR.pure w2 s2 (.cons (r1.mono x2.w) r2)⟩⟩
end
end
end DL
namespace DL
noncomputable section
open PySem PySem.Spec PyProof.Rows L2

/-! ### truth -/
def truD : DV → AH → Option Bool
  | .p .non, _ => some false
  | .p (.bl b), _ => some b
  | .p (.int i), _ => some (i != 0)
  | .p (.str x), _ => if x.length ≤ sizeLine then some ((x.length : Int) != 0) else none
  | d, S => (items d S).map fun xs => !xs.isEmpty
section
variable {M : Wd} {as : As} {H : Hp} {S : AH}
theorem truD_ok {d : DV} {v : V} {k : Bool} (h : SR M as H S) (r : DVR M as H v d) (e : truD d S = some k) : TruV M.K v H k := by
  have gen : ∀ {d : DV} {v : V} {k : Bool}, DVR M as H v d → (items d S).map (fun xs => !xs.isEmpty) = some k → TruV M.K v H k := fun {d v k} r e => by
    simp only [Option.map_eq_some_iff] at e
    obtain ⟨xs, e1, rfl⟩ := e
    obtain ⟨a, vs, rfl, z, q, t⟩ := items_sq h r e1
    have hh : xs.isEmpty = vs.isEmpty := by cases t <;> rfl
    rcases q with q | q
    · exact .inl ⟨vs, q, by rw [hh]⟩
    · exact .inr (.inl ⟨vs, q, by rw [hh]⟩)
  cases d with
  | c n => exact gen r e
  | p x =>
    cases x with
    | non => cases r; simp [truD] at e; subst e; rfl
    | bl b => cases r; simp [truD] at e; subst e; rfl
    | int i => cases r; simp only [truD, Option.some.injEq] at e; subst e; rfl
    | str x =>
      cases r
      simp only [truD] at e
      split at e
      · rename_i z
        cases e
        exact ⟨z, rfl⟩
      · cases e
    | glob n => simp [truD, items] at e
    | tup _ => exact gen r e
    | lst _ => exact gen r e
    | fro _ => exact gen r e
end
def dTru (fa : Sig → AH → Res DV) : Sig → AH → Res Bool := fun δ S => (fa δ S).bind fun a S => lift ((truD a S).map fun k => (k, S))
def dNot (fa : Sig → AH → Res Bool) : Sig → AH → Res Bool := fun δ S => (fa δ S).bind fun a S => .ok (!a) S
def dAnd (fa fb : Sig → AH → Res Bool) : Sig → AH → Res Bool := fun δ S => (fa δ S).bind fun a S => if a = true then fb δ S else .ok false S
def dOr (fa fb : Sig → AH → Res Bool) : Sig → AH → Res Bool := fun δ S => (fa δ S).bind fun a S => if a = true then .ok true S else fb δ S
def dAndV (fa fb : Sig → AH → Res DV) : Sig → AH → Res DV := fun δ S => (fa δ S).bind fun a S => match truD a S with
  | some k => if k = true then fb δ S else .ok a S
  | none => .bad
def dOrV (fa fb : Sig → AH → Res DV) : Sig → AH → Res DV := fun δ S => (fa δ S).bind fun a S => match truD a S with
  | some k => if k = true then .ok a S else fb δ S
  | none => .bad
def dNotV (fa : Sig → AH → Res DV) : Sig → AH → Res DV := fun δ S => (fa δ S).bind fun a S => lift ((truD a S).map fun k => (.p (.bl (!k)), S))
def dIte (fc : Sig → AH → Res Bool) (fa fb : Sig → AH → Res DV) : Sig → AH → Res DV := fun δ S => (fc δ S).bind fun c S => if c = true then fa δ S else fb δ S
/-- a op1 b op2 c -/
def dChain (o o' : Op2) (fa fb fc : Sig → AH → Res DV) : Sig → AH → Res DV := fun δ S => (fa δ S).bind fun a S => (fb δ S).bind fun b S => (lift (o a b S)).bind fun k S => match k with
  | .p (.bl true) => (fc δ S).bind fun c S => lift (o' b c S)
  | .p (.bl false) => .ok (.p (.bl false)) S
  | _ => .bad
def blOf (fa : Sig → AH → Res DV) : Sig → AH → Res Bool := fun δ S => (fa δ S).bind fun a S => match a with
  | .p (.bl k) => .ok k S
  | _ => .bad
section
variable {X : Cx} {E : L2.St → XK} {a b c : Expr} {es rest : List Expr} {pos : Pos} {fa fb fc : Sig → AH → Res DV} {ga gb : Sig → AH → Res Bool} {fs : Sig → AH → Res (List DV)}
theorem dt_tru (ha : DE X E a fa) (he : ∀ whole, isTrue a X.env whole = (do let v ← whole; standAt a.pos; holding [v] (truthy v)) := by intro _; rfl) : DT X E a (dTru fa) := (pt_truth ha he).imp fun σ H Q ⟨as, δ, S, sr, er, w⟩ =>
  ⟨as, δ, S, sr, er, w.bind.mono fun _ _ _ _ _ _ _ _ _ ⟨as1, S1, d1, _, x1, s1, r1, w1⟩ => by
    cases e : truD d1 S1 with
    | none => rw [e] at w1; exact w1.elim
    | some k =>
      rw [e] at w1
      exact ⟨k, truD_ok s1 r1 e, WR.pure (b := k) w1 s1 rfl⟩⟩
theorem dt_cmp {op : CmpOp} {o : Op2} (ho : OpR X (compareOp op) (rO (wd X) o)) (ha : DE X E a fa) (hb : DE X E b fb) (hm : behindInMarks op b = false) : DT X E (.Compare a [op] [b] pos) (blOf (dBin o fa fb)) := (pt_cmpR ho ha hb hm).imp fun σ H Q ⟨as, δ, S, sr, er, w⟩ => by
  refine t2 (Q := fun x H' => ∃ k, x = .bl k ∧ Q k H') sr er (w.bind.mono fun d _ _ _ x _ _ _ _ ⟨as1, S1, d1, _, x1, s1, r1, w1⟩ => ?_)
  split at w1
  · cases r1
    exact ⟨_, rfl, WR.pure (b := _) w1 s1 rfl⟩
  · exact w1.elim
theorem chain_t {o o' : Op2} {σ : L2.St} {H : Hp} {Q : VK} {as : As} {δ : Sig} {S : AH} (sr : SR (wd X) as H S) (er : ER (wd X) as H σ δ) (w : WR (wd X) (E σ) (DVR (wd X)) as H (dChain o o' fa fb fc δ S) Q) : tChain (rO (wd X) o) (rO (wd X) o') (tD (wd X) E fa) (tD (wd X) E fb) (tD (wd X) E fc) σ H Q := by
  refine ⟨as, δ, S, sr, er, w.bind.mono fun _ _ _ _ x _ _ _ _ ⟨as1, S1, d1, _, x1, s1, r1, w1⟩ => ?_⟩
  refine ⟨as1, δ, S1, s1, er.mono x1.w, w1.bind.mono fun _ _ _ _ y _ _ _ _ ⟨as2, S2, d2, _, x2, s2, r2, w2⟩ => ?_⟩
  refine ⟨as2, S2, d1, d2, s2, r1.mono x2.w, r2, ?_⟩
  have w2' := w2.bind (R := DVR (wd X))
  refine (WR.wo (E := E σ) (w2'.mono fun _ _ _ _ z _ _ _ _ ⟨as3, S3, d3, _, x3, s3, r3, w3⟩ => ?_))
  split at w3
  · cases r3
    refine ⟨true, rfl, ?_⟩
    rw [if_pos rfl]
    exact ⟨as3, δ, S3, s3, ((er.mono x1.w).mono x2.w).mono x3.w, w3.bind.mono fun _ _ _ _ _ _ _ _ _ ⟨as4, S4, d4, _, x4, s4, r4, w4⟩ => ⟨as4, S4, d2, d4, s4, (r2.mono x3.w).mono x4.w, r4, w4.wo⟩⟩
  · cases r3
    refine ⟨false, rfl, ?_⟩
    rw [if_neg Bool.false_ne_true]
    exact WR.pure w3 s3 (.bl false)
  · exact w3.elim
theorem de_chain {op op' : CmpOp} {o o' : Op2} (ho : OpR X (compareOp op) (rO (wd X) o)) (ho' : OpR X (compareOp op') (rO (wd X) o')) (ha : DE X E a fa) (hb : DE X E b fb) (hc : DE X E c fc)
    (hm : lastMarks [op, op'] [b, c] = false := by with_unfolding_all rfl) : DE X E (.Compare a [op, op'] [b, c] pos) (dChain o o' fa fb fc) := (pe_chain ho ho' ha hb hc hm).imp fun σ H Q ⟨as, δ, S, sr, er, w⟩ => chain_t sr er w
theorem dt_chain {op op' : CmpOp} {o o' : Op2} (ho : OpR X (compareOp op) (rO (wd X) o)) (ho' : OpR X (compareOp op') (rO (wd X) o')) (ha : DE X E a fa) (hb : DE X E b fb) (hc : DE X E c fc)
    (hm : lastMarks [op, op'] [b, c] = false := by with_unfolding_all rfl) : DT X E (.Compare a [op, op'] [b, c] pos) (blOf (dChain o o' fa fb fc)) := (pt_chain ho ho' ha hb hc hm).imp fun σ H Q ⟨as, δ, S, sr, er, w⟩ => by
  refine chain_t (Q := fun x H' => ∃ k, x = .bl k ∧ Q k H') sr er (w.bind.mono fun d _ _ _ x _ _ _ _ ⟨as1, S1, d1, _, x1, s1, r1, w1⟩ => ?_)
  split at w1
  · cases r1
    exact ⟨_, rfl, WR.pure (b := _) w1 s1 rfl⟩
  · exact w1.elim
theorem dt_not (ha : DT X E a ga) : DT X E (.UnaryOp .Not a pos) (dNot ga) := (pt_not ha).imp fun σ H Q ⟨as, δ, S, sr, er, w⟩ =>
  ⟨as, δ, S, sr, er, w.bind.mono fun _ _ _ _ _ _ _ _ _ ⟨as1, S1, d1, _, x1, s1, r1, w1⟩ => by cases r1; exact WR.pure (b := _) w1 s1 rfl⟩
theorem dw_and1 (ha : DT X E a ga) : DW X E (.BoolOp .And [a] pos) ga := pw_and1 ha
theorem dw_or1 (ha : DT X E a ga) : DW X E (.BoolOp .Or [a] pos) ga := pw_or1 ha
theorem dw_and (ha : DT X E a ga) (hb : DW X E (.BoolOp .And (b :: rest) pos) gb) : DW X E (.BoolOp .And (a :: b :: rest) pos) (dAnd ga gb) := (pw_and ha hb).imp fun σ H Q ⟨as, δ, S, sr, er, w⟩ =>
  ⟨as, δ, S, sr, er, w.bind.mono fun _ _ _ _ k _ _ _ _ ⟨as1, S1, d1, _, x1, s1, r1, w1⟩ => by
    cases r1
    cases k with
    | true => exact ⟨as1, δ, S1, s1, er.mono x1.w, w1⟩
    | false => exact WR.pure (b := _) w1 s1 rfl⟩
theorem dw_or (ha : DT X E a ga) (hb : DW X E (.BoolOp .Or (b :: rest) pos) gb) : DW X E (.BoolOp .Or (a :: b :: rest) pos) (dOr ga gb) := (pw_or ha hb).imp fun σ H Q ⟨as, δ, S, sr, er, w⟩ =>
  ⟨as, δ, S, sr, er, w.bind.mono fun _ _ _ _ k _ _ _ _ ⟨as1, S1, d1, _, x1, s1, r1, w1⟩ => by
    cases r1
    cases k with
    | true => exact WR.pure (b := _) w1 s1 rfl
    | false => exact ⟨as1, δ, S1, s1, er.mono x1.w, w1⟩⟩
theorem dt_w (h : DW X E a ga) : DT X E a ga := h.pt
theorem de_one {op : BoolOp} (ha : DE X E a fa) : DE X E (.BoolOp op [a] pos) fa := pe_one ha
theorem de_and (ha : DE X E a fa) (hb : DE X E (.BoolOp .And (b :: rest) pos) fb) : DE X E (.BoolOp .And (a :: b :: rest) pos) (dAndV fa fb) := (pe_andT ha hb).imp fun σ H Q ⟨as, δ, S, sr, er, w⟩ =>
  ⟨as, δ, S, sr, er, w.bind.mono fun _ _ _ _ _ _ _ _ _ ⟨as1, S1, d1, _, x1, s1, r1, w1⟩ => by
    split at w1
    · rename_i k e
      refine ⟨k, truD_ok s1 r1 e, ?_⟩
      split at w1
      · rename_i z
        rw [if_pos z]
        exact ⟨as1, δ, S1, s1, er.mono x1.w, w1⟩
      · rename_i z
        rw [if_neg z]
        exact WR.pure w1 s1 r1
    · exact w1.elim⟩
theorem de_or (ha : DE X E a fa) (hb : DE X E (.BoolOp .Or (b :: rest) pos) fb) : DE X E (.BoolOp .Or (a :: b :: rest) pos) (dOrV fa fb) := (pe_orT ha hb).imp fun σ H Q ⟨as, δ, S, sr, er, w⟩ =>
  ⟨as, δ, S, sr, er, w.bind.mono fun _ _ _ _ _ _ _ _ _ ⟨as1, S1, d1, _, x1, s1, r1, w1⟩ => by
    split at w1
    · rename_i k e
      refine ⟨k, truD_ok s1 r1 e, ?_⟩
      split at w1
      · rename_i z
        rw [if_pos z]
        exact WR.pure w1 s1 r1
      · rename_i z
        rw [if_neg z]
        exact ⟨as1, δ, S1, s1, er.mono x1.w, w1⟩
    · exact w1.elim⟩
theorem de_not (ha : DE X E a fa) : DE X E (.UnaryOp .Not a pos) (dNotV fa) := (pe_notT ha).imp fun σ H Q ⟨as, δ, S, sr, er, w⟩ =>
  ⟨as, δ, S, sr, er, w.bind.mono fun _ _ _ _ _ _ _ _ _ ⟨as1, S1, d1, _, x1, s1, r1, w1⟩ => by
    cases e : truD d1 S1 with
    | none => rw [e] at w1; exact w1.elim
    | some k =>
      rw [e] at w1
      exact ⟨k, truD_ok s1 r1 e, WR.pure w1 s1 (.bl _)⟩⟩
theorem de_ite (hc : DT X E c ga) (ha : DE X E a fa) (hb : DE X E b fb) : DE X E (.IfExp c a b pos) (dIte ga fa fb) := (pe_ifExp hc ha hb).imp fun σ H Q ⟨as, δ, S, sr, er, w⟩ =>
  ⟨as, δ, S, sr, er, w.bind.mono fun _ _ _ _ k _ _ _ _ ⟨as1, S1, d1, _, x1, s1, r1, w1⟩ => by
    cases r1
    cases k with
    | true => exact ⟨as1, δ, S1, s1, er.mono x1.w, w1⟩
    | false => exact ⟨as1, δ, S1, s1, er.mono x1.w, w1⟩⟩
end

/-! ### displays -/
def pvs : List DV → Option (List PV)
  | [] => some []
  | .p x :: r => (pvs r).map fun t => x :: t
  | .c _ :: _ => none
theorem pvs_ok {M : Wd} {as : As} {H : Hp} : ∀ {ds : List DV} {vs : List V} {ps : List PV}, DVRs M as H vs ds → pvs ds = some ps → PRs M as H vs ps
  | [], _, _, .nil, e => by cases e; exact .nil
  | .p x :: r, _, _, .cons h t, e => by
    simp only [pvs, Option.map_eq_some_iff] at e
    obtain ⟨qs, e1, rfl⟩ := e
    exact .cons h (pvs_ok t e1)
  | .c _ :: _, _, _, _, e => by cases e
def dTup (fs : Sig → AH → Res (List DV)) : Sig → AH → Res DV := fun δ S => (fs δ S).bind fun ds S => match pvs ds with
  | some ps => if ps.length ≤ 1000 then .ok (.p (.tup ps)) S else .bad
  | none => .bad
def dLst (fs : Sig → AH → Res (List DV)) : Sig → AH → Res (List PV) := fun δ S => (fs δ S).bind fun ds S => match pvs ds with
  | some ps => if ps.length ≤ 1000 then .ok ps S else .bad
  | none => .bad
theorem le1000 {n : Nat} (h : n ≤ 1000) : n ≤ sizeLine := Nat.le_trans h (by decide)
/-- a new list -/
def WF (M : Wd) (E : XK) (as : As) (H : Hp) (r : Res (List PV)) (Q : VK) : Prop := match r with
  | .ok ps S' => ∀ as' H' p vs, Ext as H as' H' → SR M as' H' S' → vs.length ≤ sizeLine → PRs M as' H' vs ps → H' p = none → Q (.ref p) (upd H' p (.lst vs))
  | .exc c p S' => ∀ as' H' cls dd, Ext as H as' H' → SR M as' H' S' → ExR M as' H' c p cls dd → E cls dd H'
  | .bad => False
def tF (M : Wd) (E : L2.St → XK) (f : Sig → AH → Res (List PV)) : TE := fun σ H Q => ∃ as δ S, SR M as H S ∧ ER M as H σ δ ∧ WF M (E σ) as H (f δ S) Q
abbrev FE (X : Cx) (E : L2.St → XK) (e : Expr) (f : Sig → AH → Res (List PV)) : Prop := PE X e (tF (wd X) E f)
def dVal (f : Sig → AH → Res (List PV)) : Sig → AH → Res DV := fun δ S => (f δ S).bind fun ps S => .ok (.p (.lst ps)) S
def dCell (f : Sig → AH → Res (List PV)) : Sig → AH → Res DV := fun δ S => (f δ S).bind fun ps S => .ok (.c S.length) (S ++ [.lst ps])
section
variable {M : Wd} {E0 : XK} {as as' : As} {H H' : Hp} {α β : Type} {R : As → Hp → β → α → Prop}
theorem WF.later {r : Res (List PV)} {Q : VK} (x : Ext as H as' H') (w : WF M E0 as H r Q) : WF M E0 as' H' r Q := by
  cases r with
  | ok a S => exact fun as2 H2 p vs e => w as2 H2 p vs (x.trans e)
  | exc c p S => exact fun as2 H2 cls dd e => w as2 H2 cls dd (x.trans e)
  | bad => exact w
theorem WF.bind {r : Res α} {k : α → AH → Res (List PV)} {Q : VK} (w : WF M E0 as H (r.bind k) Q) :
    WR M E0 R as H r (fun b H1 => ∃ as1 S1 a, r = .ok a S1 ∧ Ext as H as1 H1 ∧ SR M as1 H1 S1 ∧ R as1 H1 b a ∧ WF M E0 as1 H1 (k a S1) Q) := by
  cases r with
  | ok a S => exact fun as2 H2 b e s q => ⟨as2, S, a, rfl, e, s, q, WF.later e w⟩
  | exc c p S => exact w
  | bad => exact w
theorem WF.here {S : AH} {ps : List PV} {Q : VK} {p : Addr} {vs : List V} (w : WF M E0 as H (.ok ps S) Q) (s : SR M as H S) (z : vs.length ≤ sizeLine) (r : PRs M as H vs ps) (n : H p = none) : Q (.ref p) (upd H p (.lst vs)) := w as H p vs (Ext.refl _ _) s z r n
/-- from a value's or a cell's reading -/
theorem WF.val {r : Res (List PV)} {Q : VK} (w : WR M E0 (DVR M) as H (r.bind fun ps S => .ok (.p (.lst ps)) S) Q) : WF M E0 as H r Q := by
  cases r with
  | ok ps S => exact fun as2 H2 p vs e s z t n => w as2 _ _ (e.trans (ext_new s n)) (s.new n) (PR.lst ⟨z, upd_same, s.fresh n⟩ (t.mono (ext_new s n).w))
  | exc c p S => exact w
  | bad => exact w
theorem WF.cell {r : Res (List PV)} {Q : VK} (w : WR M E0 (DVR M) as H (r.bind fun ps S => .ok (.c S.length) (S ++ [.lst ps])) Q) : WF M E0 as H r Q := by
  cases r with
  | ok ps S => exact fun as2 H2 p vs e s z t n => w (as2.add p) _ _ (e.trans (ext_cell s n)) (s.newCell n z t) ⟨p, by rw [← s.len]; simp [As.add], rfl⟩
  | exc c p S => exact w
  | bad => exact w
end
section
variable {X : Cx} {E : L2.St → XK} {e a b c : Expr} {es rest : List Expr} {pos : Pos} {fa fb fc : Sig → AH → Res DV} {fs : Sig → AH → Res (List DV)} {f : Sig → AH → Res (List PV)}
theorem de_val (h : FE X E e f) : DE X E e (dVal f) := h.imp fun σ H Q ⟨as, δ, S, sr, er, w⟩ => ⟨as, δ, S, sr, er, WF.val w⟩
theorem de_cell (h : FE X E e f) : DE X E e (dCell f) := h.imp fun σ H Q ⟨as, δ, S, sr, er, w⟩ => ⟨as, δ, S, sr, er, WF.cell w⟩
theorem de_tup {k} (h : DA X E es fs) : DE X E (.Tuple es k pos) (dTup fs) := (pe_tup h).imp fun σ H Q ⟨as, δ, S, sr, er, w⟩ =>
  ⟨as, δ, S, sr, er, w.bind.mono fun _ _ _ _ vs _ _ _ _ ⟨as1, S1, d1, _, x1, s1, r1, w1⟩ => by
    split at w1
    · rename_i ps e
      have t := pvs_ok r1 e
      split at w1
      · rename_i z
        have z2 : vs.length ≤ sizeLine := by rw [t.length]; exact le1000 z
        exact ⟨z2, fun p n => WO.tup (ps := ps) (S := S1) (fun as' H' b => w1 as' H' b) s1 z2 t n⟩
      · exact w1.elim
    · exact w1.elim⟩
theorem fe_lst (h : DA X E es fs) : FE X E (.List es pos) (dLst fs) := (pe_lst h).imp fun σ H Q ⟨as, δ, S, sr, er, w⟩ =>
  ⟨as, δ, S, sr, er, (WF.bind w).mono fun _ _ _ _ vs _ _ _ _ ⟨as1, S1, d1, _, x1, s1, r1, w1⟩ => by
    split at w1
    · rename_i ps e
      have t := pvs_ok r1 e
      split at w1
      · rename_i z
        have z2 : vs.length ≤ sizeLine := by rw [t.length]; exact le1000 z
        exact ⟨z2, fun p n => w1.here s1 z2 t n⟩
      · exact w1.elim
    · exact w1.elim⟩
end
end
end DL
namespace SrtT
open PySem PyProof.Rows Srt SrtO
variable {prog : Program} {w : World} {A : Around} {E : Value → Shared → Prop} {s : Shared}
/-- the items of a tuple, gathered -/
theorem gather_tup {tp : Addr} {us : List Value} {R : List Value → Shared → Prop} (ht : IsTup s.heap tp us.toArray)
    (h : R us { s with heap := (s.heap.push (seqObj "list" #[] 0)).update s.heap.objs.size (Obj.mapSeq (· ++ us.toArray)) }) (hz : us.length ≤ sizeLine) :
    wpAny (model prog w) A (collect (.ref tp)) R E s := by
  obtain ⟨ob, g1, g2, m, g3⟩ := id ht
  unfold collect
  refine wpAny_bind (wpAny_runValue (codeAny_builtin entry_proto_collect' ?_)); show wpAny _ _ (do again (.builtin "list.__iadd__" ⟨[← newList [], .ref tp], []⟩)) _ _ s
  refine wpAny_bind (wpAny_newList (wpAny_pure ⟨Code.quiet_builtin _ (by decide +kernel), codeAny_builtin entry_list_iadd' ?_⟩)); show wpAny _ _ (Builtin.List.listExtendWith (.ref s.heap.objs.size) (.ref tp) (.ref s.heap.objs.size)) _ _ { s with heap := s.heap.push (seqObj "list" #[] 0) }
  unfold Builtin.List.listExtendWith
  have g1' : (s.heap.push (seqObj "list" #[] 0)).get? tp = some ob := Heap.get?_push_of_some _ g1
  refine wpAny_bind (wpAny_typeOf (T := "tuple") ⟨ob, g1', g2⟩ ?_)
  have ty : (Value.type "tuple" == Value.type "tuple") = true := by rfl
  rw [if_pos (by rw [ty]; simp)]
  refine wpAny_bind (listItems_at g1' g3 ?_)
  refine wpAny_bind (listItems_at (xs := #[]) (n := 0) (Heap.get?_push_size _ rfl) rfl ?_); rw [if_neg (by simp)]
  refine wpAny_bind (listUpdate_at (xs := #[]) (n := 0) (Heap.get?_push_size _ rfl) rfl ?_ (Nat.zero_le _) (by show (#[] ++ us.toArray).size ≤ sizeLine + 1; simp only [Array.size_append, List.size_toArray, List.length_nil]; omega))
  refine wpAny_pure ?_
  show wpAny (model prog w) A (do
      let ob ← load s.heap.objs.size
      match ob.data with
      | .seq ys _ => pure ys.toList
      | _ => unsupported "internal:collect") R E { s with heap := (s.heap.push (seqObj "list" #[] 0)).update s.heap.objs.size (Obj.mapSeq (· ++ us.toArray)) }
  refine wpAny_bind (wpAny_load (get?_update_seq (Heap.get?_push_size _ rfl) _) ?_); show wpAny _ _ (pure ((#[] : Array Value) ++ us.toArray).toList) R E _
  rw [show ((#[] : Array Value) ++ us.toArray).toList = us by simp]
  exact wpAny_pure h
/-- sorted(t) of a tuple -/
theorem sorted_tup {tp : Addr} {us : List Value} {ltv : Value → Value → Bool} {R : Value → Shared → Prop} (O : Swo ltv) (ht : IsTup s.heap tp us.toArray) (hz : us.length ≤ sizeLine)
    (hS : 2 ≤ us.length → ∀ (h₁ : Heap) (b : Addr), h₁.get? b = some (seqObj "list" us.toArray 0) → (∀ c o, s.heap.get? c = some o → c ≠ b ∧ h₁.get? c = some o) → SortableO prog w A.in1.in1 { s with heap := h₁ } b us ltv)
    (h : ∀ out : List Value, Srtd ltv out → Stb ltv out us → R (.ref (s.heap.objs.size + 1)) { s with heap := sortedAll s.heap us out.toArray }) :
    wpAny (model prog w) A (call (.builtin "sorted") [.ref tp]) R E s := by
  refine Calls.call_function_entry kind_sorted plain_sorted entry_sorted (args_sorted1 _) ?_; unfold Builtin.«sorted»
  refine wpAny_bind (m := checkCount "sorted" 1 1 _) (wpAny_pure ?_); refine wpAny_bind (gather_tup ht ?_ hz)
  refine wpAny_bind (wpAny_newList ?_ hz)
  have sz : ((s.heap.push (seqObj "list" #[] 0)).update s.heap.objs.size (Obj.mapSeq (· ++ us.toArray))).objs.size = s.heap.objs.size + 1 := by rw [Heap.size_update, size_push']
  have oL : (((s.heap.push (seqObj "list" #[] 0)).update s.heap.objs.size (Obj.mapSeq (· ++ us.toArray))).push (seqObj "list" us.toArray 0)).get? (s.heap.objs.size + 1) = some (seqObj "list" us.toArray 0) := by rw [← sz]; exact Heap.get?_push_size _ rfl
  have kp : ∀ c o, s.heap.get? c = some o → c ≠ s.heap.objs.size + 1 ∧ (((s.heap.push (seqObj "list" #[] 0)).update s.heap.objs.size (Obj.mapSeq (· ++ us.toArray))).push (seqObj "list" us.toArray 0)).get? c = some o := fun c o q => by
    have lt : c < s.heap.objs.size := Heap.lt_size q
    refine ⟨Nat.ne_of_lt (Nat.lt_succ_of_lt lt), Heap.get?_push_of_some _ ?_⟩
    rw [Heap.get?_update_ne _ _ _ _ (Nat.ne_of_lt lt)]; exact Heap.get?_push_of_some _ q
  show wpAny _ _ _ _ _ { s with heap := ((s.heap.push (seqObj "list" #[] 0)).update s.heap.objs.size (Obj.mapSeq (· ++ us.toArray))).push (seqObj "list" us.toArray 0) }
  rw [sz]
  refine wpAny_bind (wpAny_holding (wpAny_call_entry slot_list_sort ⟨_, oL, rfl⟩ entry_list_sort (list_sort_ord O oL hz (fun h2 => hS h2 _ _ oL kp) fun out hs hb => ⟨_, rfl, ?_⟩) (args_list_sort _)))
  exact wpAny_pure ⟨_, rfl, h out hs hb⟩
end SrtT
namespace L2
open PySem PySem.Spec PyProof.Rows
def rSortedTI (K : PySem.W.Frag) : List V → Hp → VK → Prop := fun vs H Q => ∃ (a : Addr) (ns : List Int), vs = [V.ref a] ∧ SqT K H a (ns.map V.int) ∧
  ∀ (ms : List Int) (p : Addr), ms.Perm ns → ms.Pairwise (· ≤ ·) → H p = none → Q (.ref p) (upd H p (.lst (ms.map V.int)))
variable {X : Cx}
theorem cr_sortedTI : CallR X (.builtin "sorted") (rSortedTI X.K) := by
  intro pins s σ H vs us Q I r h
  obtain ⟨tp, ns, rfl, hs, q⟩ := h
  obtain ⟨its, rv, hl, hz⟩ := I.tuple hs
  rw [Vals.ref1 r]
  have hi := rv.ints
  refine SrtT.sorted_tup SrtO.swo_int hl (by rw [← rv.length]; exact hz) (fun h2 h₁ b _ _ => SrtO.ints_sortable hi h2) fun out h1 h2 => ?_
  obtain ⟨k1, k2, k3⟩ := SrtO.ints_out hi h1 h2
  obtain ⟨ep, he⟩ := PyProof.Rows.sortedAll_at s.heap its out.toArray
  have hn : ((out.map SrtO.iv).map V.int).length ≤ sizeLine := by rw [List.length_map, k2.length_eq]; rw [List.length_map] at hz; exact hz
  refine ⟨.ref _, upd H (s.heap.objs.size + 1) (.lst ((out.map SrtO.iv).map V.int)), ?_, rfl, q _ _ k2 k3 (I.hok.fresh (Nat.le_succ _))⟩
  exact I.laid (t' := s.toks) (fun _ _ => PyProof.Rows.sortedAll_old) (Nat.le_succ _) ⟨hn, out, ep, vals_of_ints k1, he⟩
end L2
namespace DL
noncomputable section
open PySem PySem.Spec PyProof.Rows L2

/-! ### subscripts -/
def ixO : Op2 := fun a b S => match b with
  | .p (.int i) => match a with
    | .p (.str z) => if z.length ≤ sizeLine then (atI z.cps.toList i).map fun c => (.p (.str ⟨#[c]⟩), S) else none
    | _ => match items a S with
      | some xs => (atI xs i).map fun x => (.p x, S)
      | none => match nitems a S with
        | some ks => (atI ks i).map fun k => (.c k, S)
        | none => none
  | _ => none
theorem atI_krs {as : As} {vs : List V} {ks : List Nat} {i : Int} {k : Nat} (t : KRs as vs ks) (e : atI ks i = some k) : ∃ v, atI vs i = some v ∧ ∃ b, as.cells[k]? = some b ∧ v = .ref b := by
  unfold atI at e ⊢
  rw [t.length]
  cases q : ixN ks.length i with
  | none => rw [q] at e; cases e
  | some j =>
    rw [q] at e
    exact t.get e
theorem atI_prs {M : Wd} {as : As} {H : Hp} {vs : List V} {ps : List PV} {i : Int} {p : PV} (t : PRs M as H vs ps) (e : atI ps i = some p) : ∃ v, atI vs i = some v ∧ PR M as H v p := by
  unfold atI at e ⊢
  rw [t.length]
  cases q : ixN ps.length i with
  | none => rw [q] at e; cases e
  | some j =>
    rw [q] at e
    exact t.get e
theorem ow_ix {X : Cx} : IxR X (rO (wd X) ixO) := by
  intro value slice pins s σ H x y v u Q I rx ry h hs
  obtain ⟨as, S, d1, d2, sr, r1, r2, w⟩ := h
  unfold ixO at w
  split at w
  · cases r2
    split at w
    · cases r1
      split at w
      · rename_i z
        revert w
        generalize e : atI _ _ = o
        intro w
        cases o with
        | none => exact w.elim
        | some c => exact ix_str value slice pins s σ H _ _ v u Q I rx ry ⟨_, _, c, rfl, rfl, z, e, w.here sr (.str _)⟩ hs
      · exact w.elim
    · split at w
      · rename_i xs e1
        revert w
        generalize e : atI _ _ = o
        intro w
        cases o with
        | none => exact w.elim
        | some c =>
          obtain ⟨a, vs, rfl, z, q, t⟩ := items_sq sr r1 e1
          obtain ⟨z, e2, r⟩ := atI_prs t e
          rcases q with q | q
          · exact ix_list value slice pins s σ H _ _ v u Q I rx ry ⟨_, _, _, z, rfl, rfl, q, e2, w.here sr r⟩ hs
          · exact ix_tup value slice pins s σ H _ _ v u Q I rx ry ⟨_, _, _, z, rfl, rfl, q, e2, w.here sr r⟩ hs
      · split at w
        · rename_i ks e1
          revert w
          generalize e : atI _ _ = o
          intro w
          cases o with
          | none => exact w.elim
          | some k =>
            obtain ⟨a, vs, rfl, z, q, t⟩ := nitems_sq sr r1 e1
            obtain ⟨z, e2, b, eb, rfl⟩ := atI_krs t e
            exact ix_list value slice pins s σ H _ _ v u Q I rx ry ⟨_, _, _, _, rfl, rfl, .of q, e2, w.here sr ⟨b, eb, rfl⟩⟩ hs
        · exact w.elim
  · exact w.elim
section
variable {X : Cx} {E : L2.St → XK} {a b c : Expr} {es : List Expr} {pos : Pos} {fa fb fc : Sig → AH → Res DV} {fs : Sig → AH → Res (List DV)}
theorem de_ix (ha : DE X E a fa) (hb : DE X E b fb) (hs : PlainIx b) : DE X E (.Subscript a b pos) (dBin ixO fa fb) := (pe_ix ow_ix ha hb hs).imp fun σ H Q ⟨as, δ, S, sr, er, w⟩ => t2 sr er w
end

/-- the items of a list -/
def litems : DV → AH → Option (List PV)
  | .p (.lst xs), _ => some xs
  | .p (.fro xs), _ => some xs
  | .c n, S => match S[n]? with
    | some (.lst xs) => some xs
    | _ => none
  | _, _ => none
theorem litems_sq {M : Wd} {as : As} {H : Hp} {S : AH} {d : DV} {v : V} {xs : List PV} (h : SR M as H S) (r : DVR M as H v d) (e : litems d S = some xs) : ∃ a vs, v = .ref a ∧ vs.length ≤ sizeLine ∧ SqL M.K H a vs ∧ PRs M as H vs xs := by
  cases d with
  | p x =>
    cases x with
    | lst ys => cases e; cases r with | lst h t => exact ⟨_, _, rfl, h.1, h.sq, t⟩
    | fro ys => cases e; cases r with | fro h t => exact ⟨_, _, rfl, h.1, h.sq, t⟩
    | _ => cases e
  | c n =>
    obtain ⟨a, ea, rfl⟩ := r
    simp only [litems] at e
    split at e
    · rename_i ys q
      cases e
      obtain ⟨b, vs, eb, z, hb, t⟩ := h.at q
      rw [ea] at eb; cases eb
      exact ⟨_, _, rfl, z, .of hb, t⟩
    · cases e

/-! ### slices -/
def cutL {α : Type} (xs : List α) (lo hi : Option Int) : List α := (xs.drop (HT.sIx xs.length 0 lo)).take (HT.sIx xs.length xs.length hi - HT.sIx xs.length 0 lo)
def slO (a : DV) (lo hi : Option Int) (S : AH) : Option (DV × AH) := match a with
  | .p (.str z) => if z.length ≤ sizeLine then some (.p (.str (cutS z lo hi)), S) else none
  | .p (.tup xs) => some (.p (.tup (cutL xs lo hi)), S)
  | _ => match litems a S with
    | some xs => some (.p (.lst (cutL xs lo hi)), S)
    | none => none
def tDO (M : Wd) (E : L2.St → XK) (f : Sig → AH → Res (Option Int)) : TO := fun σ H Q => ∃ as δ S, SR M as H S ∧ ER M as H σ δ ∧ WR M (E σ) RB as H (f δ S) Q
abbrev DP (X : Cx) (E : L2.St → XK) (e : Option Expr) (f : Sig → AH → Res (Option Int)) : Prop := PO X e (tDO (wd X) E f)
theorem PO.imp {X : Cx} {e : Option Expr} {t t' : TO} (h : PO X e t) (i : ∀ σ H Q, t' σ H Q → t σ H Q) : PO X e t' := ⟨fun pins s σ H Q I q => h.run pins s σ H Q I (i σ H Q q)⟩
def dNoPart : Sig → AH → Res (Option Int) := fun _ S => .ok none S
def dPart (fa : Sig → AH → Res DV) : Sig → AH → Res (Option Int) := fun δ S => (fa δ S).bind fun a S => match a with
  | .p (.int i) => .ok (some i) S
  | _ => .bad
def dSl (fa : Sig → AH → Res DV) (fl fh : Sig → AH → Res (Option Int)) : Sig → AH → Res DV := fun δ S => (fa δ S).bind fun a S => (fl δ S).bind fun l S => (fh δ S).bind fun h S => lift (slO a l h S)
theorem cutV_prs {M : Wd} {as : As} {H : Hp} {vs : List V} {ps : List PV} (t : PRs M as H vs ps) (lo hi : Option Int) : PRs M as H (cutV vs lo hi) (cutL ps lo hi) := by
  unfold cutV cutL
  rw [t.length]
  exact (t.drop _).take _
theorem cutV_len (vs : List V) (lo hi : Option Int) : (cutV vs lo hi).length ≤ vs.length := by
  unfold cutV
  rw [List.length_take, List.length_drop]
  omega
theorem cut_whole {α : Type} (xs : List α) {lo hi : Option Int} (h : HT.sIx xs.length 0 lo = 0 ∧ HT.sIx xs.length xs.length hi = xs.length) : cutL xs lo hi = xs := by
  unfold cutL
  rw [h.1, h.2, List.drop_zero, Nat.sub_zero, List.take_length]
def rSlD (M : Wd) : V → Option Int → Option Int → Hp → VK → Prop := fun x lo hi H Q => ∃ as S d, SR M as H S ∧ DVR M as H x d ∧ WO M as H (slO d lo hi S) Q
theorem ow_sl {X : Cx} : L2.SlR X (rSlD (wd X)) := by
  intro pins s σ H x v vl vu lo hi sl Q I rx hs pl pu h
  obtain ⟨as, S, d, sr, r, w⟩ := h
  unfold slO at w
  split at w
  · cases r
    split at w
    · rename_i z
      exact sl_str pins s σ H _ v vl vu lo hi sl Q I rx hs pl pu ⟨_, rfl, z, w.here sr (.str _)⟩
    · exact w.elim
  · cases r with
    | tup h1 t1 =>
      have hl := t1.length
      refine sl_tupA pins s σ H _ v vl vu lo hi sl Q I rx hs pl pu ⟨_, _, rfl, h1.sq, fun e => ?_, fun e p n => ?_⟩
      · rw [hl] at e
        rw [cut_whole _ e] at w
        exact w.here sr (.tup h1 t1)
      · exact w.tup sr (Nat.le_trans (cutV_len _ _ _) h1.1) (cutV_prs t1 _ _) n
  · split at w
    · rename_i xs e
      obtain ⟨a, vs, rfl, z, q, t⟩ := litems_sq sr r e
      exact sl_list pins s σ H _ v vl vu lo hi sl Q I rx hs pl pu ⟨_, _, rfl, q, fun p n => w.lst sr (Nat.le_trans (cutV_len _ _ _) z) (cutV_prs t _ _) n⟩
    · exact w.elim
section
variable {X : Cx} {E : L2.St → XK} {a b c : Expr} {es : List Expr} {pos p2 : Pos} {lo hi : Option Expr} {fa fb fc : Sig → AH → Res DV} {fs : Sig → AH → Res (List DV)} {fl fh : Sig → AH → Res (Option Int)}
theorem dp_none : DP X E none dNoPart := PO.imp po_none fun σ H Q ⟨as, δ, S, sr, er, w⟩ => WR.pure (b := none) w sr rfl
theorem dp_some (ha : DE X E a fa) : DP X E (some a) (dPart fa) := PO.imp (po_some ha) fun σ H Q ⟨as, δ, S, sr, er, w⟩ =>
  ⟨as, δ, S, sr, er, w.bind.mono fun _ _ _ _ _ _ _ _ _ ⟨as1, S1, d1, _, x1, s1, r1, w1⟩ => by
    split at w1
    · cases r1
      exact ⟨_, rfl, WR.pure (b := _) w1 s1 rfl⟩
    · exact w1.elim⟩
theorem de_sl (ha : DE X E a fa) (hl : DP X E lo fl) (hh : DP X E hi fh) : DE X E (.Subscript a (.Slice lo hi none p2) pos) (dSl fa fl fh) := (pe_slice ow_sl ha hl hh).imp fun σ H Q ⟨as, δ, S, sr, er, w⟩ =>
  ⟨as, δ, S, sr, er, w.bind.mono fun _ _ _ _ _ _ _ _ _ ⟨as1, S1, d1, _, x1, s1, r1, w1⟩ =>
    ⟨as1, δ, S1, s1, er.mono x1.w, w1.bind.mono fun _ _ _ _ _ _ _ _ _ ⟨as2, S2, d2, _, x2, s2, r2, w2⟩ =>
      ⟨as2, δ, S2, s2, (er.mono x1.w).mono x2.w, w2.bind.mono fun _ _ _ _ _ _ _ _ _ ⟨as3, S3, d3, _, x3, s3, r3, w3⟩ => by
        cases r2; cases r3
        exact ⟨as3, S3, d1, s3, (r1.mono x2.w).mono x3.w, w3.wo⟩⟩⟩⟩
end

/-! ### built-in functions and classes -/
section
variable {X : Cx} {E : L2.St → XK} {a b c : Expr} {es : List Expr} {p pos : Pos} {x : Str} {T id : String} {fa fb fc : Sig → AH → Res DV} {fs : Sig → AH → Res (List DV)} {o : OpN}
theorem tApp {σ : L2.St} {H : Hp} {Q : VK} {as : As} {δ : Sig} {S : AH} (sr : SR (wd X) as H S) (er : ER (wd X) as H σ δ) (w : WR (wd X) (E σ) (DVR (wd X)) as H (dApp o fs δ S) Q) : tCB (rON (wd X) o) (tDA (wd X) E fs) σ H Q :=
  ⟨as, δ, S, sr, er, w.bind.mono fun _ _ _ _ _ _ _ _ _ ⟨as1, S1, d1, _, x1, s1, r1, w1⟩ => ⟨as1, S1, d1, s1, r1, w1.wo⟩⟩
theorem de_callB (hc : CallR X (.builtin id) (rON (wd X) o)) (hg : Gl X x) (hm : X.mg x = none) (hv : bootBuiltins x = some (.builtin id)) (ha : DA X E (a :: es) fs) (hn : x ≠ "__name__" := by decide) (hdb : (x == ("__debug__" : Str)) = false := by decide)
    (he : starEach (a :: es) X.env = (false, eval a X.env) :: starEach es X.env := by rfl) (hpl : (backTo pos (starEach es X.env)).any (·.1) = false := by rfl) : DE X E (.Call (.Name x p) (a :: es) [] pos) (dApp o fs) := (pe_callB hc hg hm hv ha hn hdb he hpl).imp fun σ H Q ⟨as, δ, S, sr, er, w⟩ => tApp sr er w
theorem de_callTy (hc : CallR X (.type T) (rON (wd X) o)) (hg : Gl X x) (hm : X.mg x = none) (hv : bootBuiltins x = some (.type T)) (ha : DA X E (a :: es) fs) (hn : x ≠ "__name__" := by decide) (hdb : (x == ("__debug__" : Str)) = false := by decide)
    (he : starEach (a :: es) X.env = (false, eval a X.env) :: starEach es X.env := by rfl) (hpl : (backTo pos (starEach es X.env)).any (·.1) = false := by rfl) : DE X E (.Call (.Name x p) (a :: es) [] pos) (dApp o fs) := (pe_callTy hc hg hm hv ha hn hdb he hpl).imp fun σ H Q ⟨as, δ, S, sr, er, w⟩ => tApp sr er w
end
def intsOf : List PV → Option (List Int)
  | [] => some []
  | .int i :: r => (intsOf r).map fun t => i :: t
  | _ :: _ => none
def blsOf : List PV → Option (List Bool)
  | [] => some []
  | .bl i :: r => (blsOf r).map fun t => i :: t
  | _ :: _ => none
theorem intsOf_ok : ∀ {ps : List PV} {ns : List Int}, intsOf ps = some ns → ps = ns.map PV.int
  | [], _, e => by cases e; rfl
  | .int i :: r, ns, e => by
    simp only [intsOf, Option.map_eq_some_iff] at e
    obtain ⟨t, e1, rfl⟩ := e
    rw [intsOf_ok e1]; rfl
  | .non :: _, _, e => by cases e
  | .bl _ :: _, _, e => by cases e
  | .str _ :: _, _, e => by cases e
  | .tup _ :: _, _, e => by cases e
  | .lst _ :: _, _, e => by cases e
  | .fro _ :: _, _, e => by cases e
  | .glob _ :: _, _, e => by cases e
theorem intsOf_map (ns : List Int) : intsOf (ns.map PV.int) = some ns := by
  induction ns with
  | nil => rfl
  | cons n ns ih => simp [intsOf, ih]
theorem blsOf_ok : ∀ {ps : List PV} {ns : List Bool}, blsOf ps = some ns → ps = ns.map PV.bl
  | [], _, e => by cases e; rfl
  | .bl i :: r, ns, e => by
    simp only [blsOf, Option.map_eq_some_iff] at e
    obtain ⟨t, e1, rfl⟩ := e
    rw [blsOf_ok e1]; rfl
  | .non :: _, _, e => by cases e
  | .int _ :: _, _, e => by cases e
  | .str _ :: _, _, e => by cases e
  | .tup _ :: _, _, e => by cases e
  | .lst _ :: _, _, e => by cases e
  | .fro _ :: _, _, e => by cases e
  | .glob _ :: _, _, e => by cases e
theorem blsOf_map (ns : List Bool) : blsOf (ns.map PV.bl) = some ns := by
  induction ns with
  | nil => rfl
  | cons n ns ih => simp [blsOf, ih]
def lenO : OpN := fun ds S => match ds with
  | [.p (.str x)] => if x.length ≤ sizeLine then some (.p (.int x.length), S) else none
  | [d] => match items d S with
    | some xs => some (.p (.int xs.length), S)
    | none => match nitems d S with
      | some ks => some (.p (.int ks.length), S)
      | none => none
  | _ => none
def absO : OpN := fun ds S => match ds with
  | [.p (.int i)] => some (.p (.int (if i < 0 then -i else i)), S)
  | _ => none
def intO : OpN := fun ds S => match ds with
  | [.p (.int i)] => some (.p (.int i), S)
  | [.p (.bl k)] => some (.p (.int (if k then 1 else 0)), S)
  | _ => none
def maxI : List Int → Int
  | [] => 0
  | [a] => a
  | a :: r => max a (maxI r)
def minI : List Int → Int
  | [] => 0
  | [a] => a
  | a :: r => min a (minI r)
theorem maxI_mem : ∀ (ns : List Int), ns ≠ [] → maxI ns ∈ ns ∧ ∀ y ∈ ns, y ≤ maxI ns
  | [], h => absurd rfl h
  | [a], _ => ⟨List.mem_singleton.mpr rfl, fun y hy => by rw [List.mem_singleton.mp hy]; exact Int.le_refl _⟩
  | a :: b :: r, _ => by
    obtain ⟨h1, h2⟩ := maxI_mem (b :: r) (by simp)
    show max a (maxI (b :: r)) ∈ _ ∧ ∀ y ∈ _, y ≤ max a (maxI (b :: r))
    refine ⟨?_, fun y hy => ?_⟩
    · by_cases h : maxI (b :: r) ≤ a
      · rw [Int.max_eq_left h]; exact List.mem_cons_self
      · rw [Int.max_eq_right (by omega)]; exact List.mem_cons_of_mem _ h1
    · rcases List.mem_cons.mp hy with rfl | hy
      · omega
      · have := h2 y hy; omega
theorem minI_mem : ∀ (ns : List Int), ns ≠ [] → minI ns ∈ ns ∧ ∀ y ∈ ns, minI ns ≤ y
  | [], h => absurd rfl h
  | [a], _ => ⟨List.mem_singleton.mpr rfl, fun y hy => by rw [List.mem_singleton.mp hy]; exact Int.le_refl _⟩
  | a :: b :: r, _ => by
    obtain ⟨h1, h2⟩ := minI_mem (b :: r) (by simp)
    show min a (minI (b :: r)) ∈ _ ∧ ∀ y ∈ _, min a (minI (b :: r)) ≤ y
    refine ⟨?_, fun y hy => ?_⟩
    · by_cases h : a ≤ minI (b :: r)
      · rw [Int.min_eq_left h]; exact List.mem_cons_self
      · rw [Int.min_eq_right (by omega)]; exact List.mem_cons_of_mem _ h1
    · rcases List.mem_cons.mp hy with rfl | hy
      · omega
      · have := h2 y hy; omega
def maxO : OpN := fun ds S => match ds with
  | [.p (.int i), .p (.int j)] => some (.p (.int (if j > i then j else i)), S)
  | [d] => match litems d S with
    | some xs => match intsOf xs with
      | some ns => if ns ≠ [] then some (.p (.int (maxI ns)), S) else none
      | none => none
    | none => none
  | _ => none
def minO : OpN := fun ds S => match ds with
  | [.p (.int i), .p (.int j)] => some (.p (.int (if j < i then j else i)), S)
  | [d] => match litems d S with
    | some xs => match intsOf xs with
      | some ns => if ns ≠ [] then some (.p (.int (minI ns)), S) else none
      | none => none
    | none => none
  | _ => none
def sumO : OpN := fun ds S => match ds with
  | [d] => match items d S with
    | some xs => match intsOf xs with
      | some ns => some (.p (.int ns.sum), S)
      | none => none
    | none => none
  | _ => none
def allO : OpN := fun ds S => match ds with
  | [d] => match litems d S with
    | some xs => match blsOf xs with
      | some ns => some (.p (.bl (ns.all id)), S)
      | none => none
    | none => none
  | _ => none
def anyO : OpN := fun ds S => match ds with
  | [d] => match litems d S with
    | some xs => match blsOf xs with
      | some ns => some (.p (.bl (ns.any id)), S)
      | none => none
    | none => none
  | _ => none
def tupleO : OpN := fun ds S => match ds with
  | [d] => match items d S with
    | some xs => some (.p (.tup xs), S)
    | none => none
  | _ => none
theorem DVRs.one {M : Wd} {as : As} {H : Hp} {vs : List V} {d : DV} (r : DVRs M as H vs [d]) : ∃ v, vs = [v] ∧ DVR M as H v d := by
  cases r with
  | cons h t => cases t; exact ⟨_, rfl, h⟩
theorem DVRs.two {M : Wd} {as : As} {H : Hp} {vs : List V} {d e : DV} (r : DVRs M as H vs [d, e]) : ∃ v w, vs = [v, w] ∧ DVR M as H v d ∧ DVR M as H w e := by
  cases r with
  | cons h t =>
    obtain ⟨w, rfl, h2⟩ := DVRs.one t
    exact ⟨_, _, rfl, h, h2⟩
section
variable {X : Cx}
theorem ow_len : CallR X (.builtin "len") (rON (wd X) lenO) := by
  intro pins s σ H vs us Q I rv h
  obtain ⟨as, S, ds, sr, r, w⟩ := h
  unfold lenO at w
  split at w
  · obtain ⟨v, rfl, r1⟩ := DVRs.one r
    cases r1
    split at w
    · rename_i z
      exact call_len pins s σ H _ us Q I rv ⟨_, _, rfl, ⟨z, rfl⟩, w.here sr (.int _)⟩
    · exact w.elim
  · obtain ⟨v, rfl, r1⟩ := DVRs.one r
    split at w
    · rename_i xs e
      obtain ⟨a, vs, rfl, z, q, t⟩ := items_sq sr r1 e
      rw [← t.length] at w
      rcases q with q | q
      · exact call_len pins s σ H _ us Q I rv ⟨_, _, rfl, .inl ⟨vs, q, rfl⟩, w.here sr (.int _)⟩
      · exact call_len pins s σ H _ us Q I rv ⟨_, _, rfl, .inr ⟨vs, q, rfl⟩, w.here sr (.int _)⟩
    · split at w
      · rename_i ks e
        obtain ⟨a, vs, rfl, z, q, t⟩ := nitems_sq sr r1 e
        rw [← t.length] at w
        exact call_len pins s σ H _ us Q I rv ⟨_, _, rfl, .inl ⟨vs, .of q, rfl⟩, w.here sr (.int _)⟩
      · exact w.elim
  · exact w.elim
theorem ow_abs : CallR X (.builtin "abs") (rON (wd X) absO) := by
  intro pins s σ H vs us Q I rv h
  obtain ⟨as, S, ds, sr, r, w⟩ := h
  unfold absO at w
  split at w
  · obtain ⟨v, rfl, r1⟩ := DVRs.one r
    cases r1
    exact call_abs pins s σ H _ us Q I rv ⟨_, rfl, w.here sr (.int _)⟩
  · exact w.elim
theorem ow_int : CallR X (.type "int") (rON (wd X) intO) := by
  intro pins s σ H vs us Q I rv h
  obtain ⟨as, S, ds, sr, r, w⟩ := h
  unfold intO at w
  split at w
  · obtain ⟨v, rfl, r1⟩ := DVRs.one r
    cases r1
    exact call_int1 pins s σ H _ us Q I rv (.inl ⟨_, rfl, w.here sr (.int _)⟩)
  · obtain ⟨v, rfl, r1⟩ := DVRs.one r
    cases r1
    exact call_int1 pins s σ H _ us Q I rv (.inr ⟨_, rfl, w.here sr (.int _)⟩)
  · exact w.elim
theorem ow_max (hc : X.calm = true) : CallR X (.builtin "max") (rON (wd X) maxO) := by
  intro pins s σ H vs us Q I rv h
  obtain ⟨as, S, ds, sr, r, w⟩ := h
  unfold maxO at w
  split at w
  · obtain ⟨v, v2, rfl, r1, r2⟩ := DVRs.two r
    cases r1; cases r2
    exact call_max2 hc pins s σ H _ us Q I rv ⟨_, _, rfl, w.here sr (.int _)⟩
  · obtain ⟨v, rfl, r1⟩ := DVRs.one r
    split at w
    · rename_i xs e
      obtain ⟨a, vs, rfl, z, q, t⟩ := litems_sq sr r1 e
      split at w
      · rename_i ns e2
        rw [intsOf_ok e2] at t
        rw [t.ints] at q
        split at w
        · rename_i hne
          obtain ⟨g1, g2⟩ := maxI_mem ns hne
          refine cr_max hc pins s σ H _ us Q I rv ⟨a, ns, rfl, q, List.length_pos_iff.mpr hne, fun m h1 h2 => ?_⟩
          have e3 : m = maxI ns := Int.le_antisymm (g2 m h1) (h2 _ g1)
          subst e3
          exact w.here sr (.int _)
        · exact w.elim
      · exact w.elim
    · exact w.elim
  · exact w.elim
theorem ow_min (hc : X.calm = true) : CallR X (.builtin "min") (rON (wd X) minO) := by
  intro pins s σ H vs us Q I rv h
  obtain ⟨as, S, ds, sr, r, w⟩ := h
  unfold minO at w
  split at w
  · obtain ⟨v, v2, rfl, r1, r2⟩ := DVRs.two r
    cases r1; cases r2
    exact call_min2 hc pins s σ H _ us Q I rv ⟨_, _, rfl, w.here sr (.int _)⟩
  · obtain ⟨v, rfl, r1⟩ := DVRs.one r
    split at w
    · rename_i xs e
      obtain ⟨a, vs, rfl, z, q, t⟩ := litems_sq sr r1 e
      split at w
      · rename_i ns e2
        rw [intsOf_ok e2] at t
        rw [t.ints] at q
        split at w
        · rename_i hne
          obtain ⟨g1, g2⟩ := minI_mem ns hne
          refine cr_min hc pins s σ H _ us Q I rv ⟨a, ns, rfl, q, List.length_pos_iff.mpr hne, fun m h1 h2 => ?_⟩
          have e3 : m = minI ns := Int.le_antisymm (h2 _ g1) (g2 m h1)
          subst e3
          exact w.here sr (.int _)
        · exact w.elim
      · exact w.elim
    · exact w.elim
  · exact w.elim
/-- sum of a tuple -/
theorem cr_sumT (hc : X.calm = true) : CallR X (.builtin "sum") (fun vs H Q => ∃ (a : Addr) (ns : List Int), vs = [V.ref a] ∧ SqT X.K H a (ns.map V.int) ∧ Q (.int ns.sum) H) := by
  intro pins s σ H vs us Q I r h
  obtain ⟨a, ns, rfl, hs, q⟩ := h
  obtain ⟨its, rv, ht, _⟩ := I.tuple hs
  rw [Vals.ref1 r]
  have hi := rv.ints
  obtain ⟨xs, e⟩ := hi.allInts.items
  have hn : numsOf (intItems xs).toList = ns := by rw [← e]; exact hi.numsOf
  rw [nums_intItems] at hn
  have ht' : s.heap.IsTuple a its.toArray := ht
  rw [e] at ht'
  refine PySem.W.ktm_sumG (I.ok.hd hc) ht' fun h' tk t' hk => ?_
  rw [preSum_eq, List.take_of_length_le (by simp), hn]
  exact ⟨.int _, H, I.kept hk, ⟨_, rfl⟩, q⟩
theorem ow_sum (hc : X.calm = true) : CallR X (.builtin "sum") (rON (wd X) sumO) := by
  intro pins s σ H vs us Q I rv h
  obtain ⟨as, S, ds, sr, r, w⟩ := h
  unfold sumO at w
  split at w
  · obtain ⟨v, rfl, r1⟩ := DVRs.one r
    split at w
    · rename_i xs e
      obtain ⟨a, vs, rfl, z, q, t⟩ := items_sq sr r1 e
      split at w
      · rename_i ns e2
        rw [intsOf_ok e2] at t
        rw [t.ints] at q
        rcases q with q | q
        · exact cr_sum hc pins s σ H _ us Q I rv ⟨a, ns, rfl, q, w.here sr (.int _)⟩
        · exact cr_sumT hc pins s σ H _ us Q I rv ⟨a, ns, rfl, q, w.here sr (.int _)⟩
      · exact w.elim
    · exact w.elim
  · exact w.elim
theorem ow_all (hc : X.calm = true) : CallR X (.builtin "all") (rON (wd X) allO) := by
  intro pins s σ H vs us Q I rv h
  obtain ⟨as, S, ds, sr, r, w⟩ := h
  unfold allO at w
  split at w
  · obtain ⟨v, rfl, r1⟩ := DVRs.one r
    split at w
    · rename_i xs e
      obtain ⟨a, vs, rfl, z, q, t⟩ := litems_sq sr r1 e
      split at w
      · rename_i ns e2
        rw [blsOf_ok e2] at t
        rw [t.bls] at q
        exact cr_all hc pins s σ H _ us Q I rv ⟨a, ns, rfl, q, w.here sr (.bl _)⟩
      · exact w.elim
    · exact w.elim
  · exact w.elim
theorem ow_any (hc : X.calm = true) : CallR X (.builtin "any") (rON (wd X) anyO) := by
  intro pins s σ H vs us Q I rv h
  obtain ⟨as, S, ds, sr, r, w⟩ := h
  unfold anyO at w
  split at w
  · obtain ⟨v, rfl, r1⟩ := DVRs.one r
    split at w
    · rename_i xs e
      obtain ⟨a, vs, rfl, z, q, t⟩ := litems_sq sr r1 e
      split at w
      · rename_i ns e2
        rw [blsOf_ok e2] at t
        rw [t.bls] at q
        exact cr_any hc pins s σ H _ us Q I rv ⟨a, ns, rfl, q, w.here sr (.bl _)⟩
      · exact w.elim
    · exact w.elim
  · exact w.elim
theorem tup_or_lst {M : Wd} {as : As} {H : Hp} {S : AH} {d : DV} {v : V} {xs : List PV} (h : SR M as H S) (r : DVR M as H v d) (e : items d S = some xs) : d = .p (.tup xs) ∨ litems d S = some xs := by
  cases d with
  | p x => cases x <;> first | (cases e; exact .inl rfl) | (cases e; exact .inr rfl) | cases e
  | c n => exact .inr e
theorem ow_tuple : CallR X (.type "tuple") (rON (wd X) tupleO) := by
  intro pins s σ H vs us Q I rv h
  obtain ⟨as, S, ds, sr, r, w⟩ := h
  unfold tupleO at w
  split at w
  · obtain ⟨v, rfl, r1⟩ := DVRs.one r
    split at w
    · rename_i xs e
      rcases tup_or_lst sr r1 e with e | e
      · subst e
        cases r1 with
        | tup h1 t1 => exact call_tuple_of pins s σ H _ us Q I rv ⟨_, _, rfl, .inr ⟨h1.sq, w.here sr (.tup h1 t1)⟩⟩
      · obtain ⟨a, vs, rfl, z, q, t⟩ := litems_sq sr r1 e
        exact call_tuple_of pins s σ H _ us Q I rv ⟨_, _, rfl, .inl ⟨q, fun p n => w.tup sr z t n⟩⟩
    · exact w.elim
  · exact w.elim
end
/-- a built-in that gives a new list -/
abbrev OpF := List DV → AH → Option (List PV)
def rFN (M : Wd) (o : OpF) : List V → Hp → VK → Prop := fun vs H Q => ∃ as S ds ps, SR M as H S ∧ DVRs M as H vs ds ∧ o ds S = some ps ∧ ∀ p ws, ws.length ≤ sizeLine → PRs M as H ws ps → H p = none → Q (.ref p) (upd H p (.lst ws))
def dAppF (o : OpF) (fa : Sig → AH → Res (List DV)) : Sig → AH → Res (List PV) := fun δ S => (fa δ S).bind fun ds S => match o ds S with
  | some ps => .ok ps S
  | none => .bad
section
variable {X : Cx} {E : L2.St → XK} {a b c : Expr} {es : List Expr} {p pos : Pos} {x : Str} {T id : String} {fa fb fc : Sig → AH → Res DV} {fs : Sig → AH → Res (List DV)} {o : OpF}
theorem tAppF {σ : L2.St} {H : Hp} {Q : VK} {as : As} {δ : Sig} {S : AH} (sr : SR (wd X) as H S) (er : ER (wd X) as H σ δ) (w : WF (wd X) (E σ) as H (dAppF o fs δ S) Q) : tCB (rFN (wd X) o) (tDA (wd X) E fs) σ H Q :=
  ⟨as, δ, S, sr, er, (WF.bind w).mono fun _ _ _ _ _ _ _ _ _ ⟨as1, S1, d1, _, x1, s1, r1, w1⟩ => by
    split at w1
    · rename_i ps e
      exact ⟨as1, S1, d1, ps, s1, r1, e, fun p ws z t n => w1.here s1 z t n⟩
    · exact w1.elim⟩
theorem fe_callB (hc : CallR X (.builtin id) (rFN (wd X) o)) (hg : Gl X x) (hm : X.mg x = none) (hv : bootBuiltins x = some (.builtin id)) (ha : DA X E (a :: es) fs) (hn : x ≠ "__name__" := by decide) (hdb : (x == ("__debug__" : Str)) = false := by decide)
    (he : starEach (a :: es) X.env = (false, eval a X.env) :: starEach es X.env := by rfl) (hpl : (backTo pos (starEach es X.env)).any (·.1) = false := by rfl) : FE X E (.Call (.Name x p) (a :: es) [] pos) (dAppF o fs) := (pe_callB hc hg hm hv ha hn hdb he hpl).imp fun σ H Q ⟨as, δ, S, sr, er, w⟩ => tAppF sr er w
theorem fe_callTy (hc : CallR X (.type T) (rFN (wd X) o)) (hg : Gl X x) (hm : X.mg x = none) (hv : bootBuiltins x = some (.type T)) (ha : DA X E (a :: es) fs) (hn : x ≠ "__name__" := by decide) (hdb : (x == ("__debug__" : Str)) = false := by decide)
    (he : starEach (a :: es) X.env = (false, eval a X.env) :: starEach es X.env := by rfl) (hpl : (backTo pos (starEach es X.env)).any (·.1) = false := by rfl) : FE X E (.Call (.Name x p) (a :: es) [] pos) (dAppF o fs) := (pe_callTy hc hg hm hv ha hn hdb he hpl).imp fun σ H Q ⟨as, δ, S, sr, er, w⟩ => tAppF sr er w
end
def listF : OpF := fun ds S => match ds with
  | [d] => items d S
  | _ => none
/-- sorted numbers -/
def insI (a : Int) : List Int → List Int
  | [] => [a]
  | b :: r => if a ≤ b then a :: b :: r else b :: insI a r
def sortI : List Int → List Int
  | [] => []
  | a :: r => insI a (sortI r)
theorem insI_perm (a : Int) : ∀ l, (insI a l).Perm (a :: l)
  | [] => .refl _
  | b :: r => by
    unfold insI
    split
    · exact .refl _
    · exact (List.Perm.cons b (insI_perm a r)).trans (List.Perm.swap a b r)
theorem sortI_perm : ∀ l, (sortI l).Perm l
  | [] => .refl _
  | a :: r => (insI_perm a (sortI r)).trans (List.Perm.cons a (sortI_perm r))
theorem insI_sorted (a : Int) : ∀ {l : List Int}, l.Pairwise (· ≤ ·) → (insI a l).Pairwise (· ≤ ·)
  | [], _ => by simp [insI]
  | b :: r, h => by
    have h' := List.pairwise_cons.mp h
    unfold insI
    split
    · rename_i z
      refine List.pairwise_cons.mpr ⟨fun y hy => ?_, h⟩
      rcases List.mem_cons.mp hy with rfl | hy
      · exact z
      · have := h'.1 y hy; omega
    · rename_i z
      refine List.pairwise_cons.mpr ⟨fun y hy => ?_, insI_sorted a h'.2⟩
      rcases List.mem_cons.mp ((insI_perm a r).mem_iff.mp hy) with rfl | hy
      · omega
      · exact h'.1 y hy
theorem sortI_sorted : ∀ l, (sortI l).Pairwise (· ≤ ·)
  | [] => .nil
  | a :: r => insI_sorted a (sortI_sorted r)
theorem sortI_only {l m : List Int} (h : m.Perm l) (s : m.Pairwise (· ≤ ·)) : m = sortI l := PySem.W.ksm_same (h.trans (sortI_perm l).symm) s (sortI_sorted l)
def sortedF : OpF := fun ds S => match ds with
  | [.p (.tup xs)] => match intsOf xs with
    | some ns => some ((sortI ns).map PV.int)
    | none => none
  | [d] => match litems d S with
    | some xs => match intsOf xs with
      | some ns => some ((sortI ns).map PV.int)
      | none => none
    | none => none
  | _ => none
section
variable {X : Cx}
theorem ow_list : CallR X (.type "list") (rFN (wd X) listF) := by
  intro pins s σ H vs us Q I rv h
  obtain ⟨as, S, ds, ps, sr, r, e, q⟩ := h
  unfold listF at e
  split at e
  · obtain ⟨v, rfl, r1⟩ := DVRs.one r
    obtain ⟨a, vs, rfl, z, q2, t⟩ := items_sq sr r1 e
    exact call_list_of pins s σ H _ us Q I rv ⟨a, vs, rfl, q2, fun p n => q p vs z t n⟩
  · cases e
theorem ow_sorted : CallR X (.builtin "sorted") (rFN (wd X) sortedF) := by
  intro pins s σ H vs us Q I rv h
  obtain ⟨as, S, ds, ps, sr, r, e, q⟩ := h
  unfold sortedF at e
  split at e
  · obtain ⟨v, rfl, r1⟩ := DVRs.one r
    cases r1 with
    | tup h t =>
      split at e
      · rename_i ns e2
        cases e
        rw [intsOf_ok e2] at t
        have hz := h.1
        have q2 := h.sq
        rw [t.ints] at q2 hz
        refine cr_sortedTI pins s σ H _ us Q I rv ⟨_, ns, rfl, q2, fun ns' p h1 h2 n => ?_⟩
        rw [sortI_only h1 h2]
        refine q p _ ?_ (PRs.of_ints _) n
        rw [List.length_map, (sortI_perm ns).length_eq, ← List.length_map (f := V.int)]
        exact hz
      · cases e
  · obtain ⟨v, rfl, r1⟩ := DVRs.one r
    split at e
    · rename_i xs e1
      obtain ⟨a, vs, rfl, z, q2, t⟩ := litems_sq sr r1 e1
      split at e
      · rename_i ns e2
        cases e
        rw [intsOf_ok e2] at t
        have hl : vs.length = ns.length := by rw [t.length, List.length_map]
        rw [t.ints] at q2
        refine cr_sortedI pins s σ H _ us Q I rv ⟨a, ns, rfl, q2, fun ns' p h1 h2 n => ?_⟩
        rw [sortI_only h1 h2]
        refine q p _ ?_ (PRs.of_ints _) n
        rw [List.length_map, (sortI_perm ns).length_eq, ← hl]
        exact z
      · cases e
    · cases e
  · cases e
end

/-! ### isinstance -/
def tyName : DV → AH → Option String
  | .p .non, _ => some "NoneType"
  | .p (.bl _), _ => some "bool"
  | .p (.int _), _ => some "int"
  | .p (.str _), _ => some "str"
  | .p (.tup _), _ => some "tuple"
  | .p (.lst _), _ => some "list"
  | .p (.fro _), _ => some "list"
  | .p (.glob _), _ => none
  | .c n, S => match S[n]? with
    | some (.lst _) => some "list"
    | _ => none
/-- is a value of the type a one of the type b -/
def isTy (a b : String) : Bool := a == b || (a == "bool" && b == "int")
def tyNames : List String := ["NoneType", "bool", "int", "str", "tuple", "list"]
def tyOk (b : String) : Bool := tyNames.all fun a => decide (kitB a b = some (isTy a b))
theorem tyName_in {d : DV} {S : AH} {a : String} (h : tyName d S = some a) : a ∈ tyNames := by
  unfold tyName at h
  split at h <;> first | (cases h; decide) | (cases h) | skip
  split at h
  · cases h; decide
  · cases h
theorem tyName_ty {M : Wd} {as : As} {H : Hp} {S : AH} {d : DV} {v : V} {a : String} (sr : SR M as H S) (r : DVR M as H v d) (h : tyName d S = some a) : TyX M.K H v (.type a) := by
  cases d with
  | p x =>
    cases x with
    | non => cases h; cases r; exact .base .non
    | bl b => cases h; cases r; exact .base (.bl _)
    | int i => cases h; cases r; exact .base (.int _)
    | str x => cases h; cases r; exact .base (.str _)
    | tup xs =>
      cases h
      cases r with
      | tup h1 t1 =>
        rcases h1.2 with ⟨e, _⟩ | ⟨o, its, n, hk, hc, _⟩
        · exact .base (.tup e)
        · exact .kTuple hk hc
    | lst xs => cases h; cases r with | lst h1 t1 => exact .base (.lst h1.2.1)
    | fro xs =>
      cases h
      cases r with
      | fro h1 t1 =>
        rcases h1.2 with ⟨⟨o, e⟩, _⟩ | ⟨o, its, n, hk, hc, _⟩
        · exact .base (.frz e)
        · exact .kList hk hc
    | glob n => cases h
  | c n =>
    obtain ⟨b, eb, rfl⟩ := r
    simp only [tyName] at h
    split at h
    · rename_i xs q
      cases h
      obtain ⟨b2, vs, eb2, z, hb, t⟩ := sr.at q
      rw [eb] at eb2; cases eb2
      exact .base (.lst hb)
    · cases h
def dIsi (T : String) (fa : Sig → AH → Res DV) : Sig → AH → Res DV := fun δ S => (fa δ S).bind fun a S => match tyName a S with
  | some t => .ok (.p (.bl (isTy t T))) S
  | none => .bad
theorem kit_any {K : PySem.W.Frag} {a : String} (ha : a ∈ tyNames) : ∀ {Ts : List String}, (∀ T ∈ Ts, tyOk T = true) → PySem.W.kitAny K (.type a) (Ts.map Value.type) = some (Ts.any fun T => isTy a T)
  | [], _ => rfl
  | T :: r, h => by
    have h1 : kitB a T = some (isTy a T) := of_decide_eq_true (List.all_eq_true.mp (h T List.mem_cons_self) a ha)
    have h2 := kit_any (K := K) ha (Ts := r) fun U hU => h U (List.mem_cons_of_mem _ hU)
    show PySem.W.kitAny K (.type a) (.type T :: r.map Value.type) = some (isTy a T || r.any fun T => isTy a T)
    cases e : isTy a T with
    | true =>
      rw [e] at h1
      exact kitAny_cons (b := true) (r := true) (kit_ty h1) (fun z => nomatch z) fun _ => rfl
    | false =>
      rw [e] at h1
      rw [Bool.false_or]
      exact kitAny_cons (b := false) (kit_ty h1) (fun _ => h2) fun z => nomatch z
def dIsiT (Ts : List String) (fa : Sig → AH → Res DV) : Sig → AH → Res DV := fun δ S => (fa δ S).bind fun a S => match tyName a S with
  | some t => .ok (.p (.bl (Ts.any fun T => isTy t T))) S
  | none => .bad
section
variable {X : Cx} {E : L2.St → XK} {a : Expr} {p q q1 q2 pos tpos : Pos} {T T2 : String} {x y : Str} {k : Nat} {fa : Sig → AH → Res DV}
theorem de_isi (hT : tyOk T = true) (hg : Gl X "isinstance") (hm : X.mg "isinstance" = none) (gx : Gl X x) (mx : X.mg x = none) (bx : bootBuiltins x = some (.type T)) (ha : DE X E a fa) (nx : x ≠ "__name__" := by decide) (dx : (x == ("__debug__" : Str)) = false := by decide)
    (he : starEach [a, .Name x q] X.env = (false, eval a X.env) :: starEach [.Name x q] X.env := by rfl) :
    DE X E (.Call (.Name "isinstance" p) [a, .Name x q] [] pos) (dIsi T fa) :=
  (pe_callB call_isi hg hm (show bootBuiltins "isinstance" = some (.builtin "isinstance") by decide +kernel) (pa_cons ha (pa_cons (pe_bltn (v := .ty T) gx mx bx rfl nx dx) pa_nil) he) (by decide) (by decide) he).imp fun σ H Q ⟨as, δ, S, sr, er, w⟩ =>
    ⟨as, δ, S, sr, er, w.bind.mono fun _ _ _ _ v _ _ _ _ ⟨as1, S1, d1, _, x1, s1, r1, w1⟩ => by
      split at w1
      · rename_i t e
        have h1 : kitB t T = some (isTy t T) := of_decide_eq_true (List.all_eq_true.mp hT t (tyName_in e))
        exact ⟨v, .ty T, _, _, _, rfl, .ty T, tyName_ty s1 r1 e, kit_ty h1, WR.pure w1 s1 (.bl _)⟩
      · exact w1.elim⟩
theorem de_isi2 (hT : tyOk T = true) (hT2 : tyOk T2 = true) (hg : Gl X "isinstance") (hm : X.mg "isinstance" = none) (gx : Gl X x) (mx : X.mg x = none) (bx : bootBuiltins x = some (.type T)) (gy : Gl X y) (my : X.mg y = none) (yx : bootBuiltins y = some (.type T2)) (ha : DE X E a fa)
    (nx : x ≠ "__name__" := by decide) (dx : (x == ("__debug__" : Str)) = false := by decide) (ny : y ≠ "__name__" := by decide) (dy : (y == ("__debug__" : Str)) = false := by decide)
    (he : starEach [a, .Tuple [.Name x q1, .Name y q2] k tpos] X.env = (false, eval a X.env) :: starEach [.Tuple [.Name x q1, .Name y q2] k tpos] X.env := by rfl) :
    DE X E (.Call (.Name "isinstance" p) [a, .Tuple [.Name x q1, .Name y q2] k tpos] [] pos) (dIsiT [T, T2] fa) :=
  (pe_callB call_isiT hg hm (show bootBuiltins "isinstance" = some (.builtin "isinstance") by decide +kernel) (pa_cons ha (pa_cons (pe_tup (pa_cons (pe_bltn (v := .ty T) gx mx bx rfl nx dx) (pa_cons (pe_bltn (v := .ty T2) gy my yx rfl ny dy) pa_nil))) pa_nil) he) (by decide) (by decide) he).imp fun σ H Q ⟨as, δ, S, sr, er, w⟩ =>
    ⟨as, δ, S, sr, er, w.bind.mono fun _ _ _ H1 v _ _ _ _ ⟨as1, S1, d1, _, x1, s1, r1, w1⟩ => by
      split at w1
      · rename_i t e
        refine ⟨by show 2 ≤ sizeLine; decide, fun tp n => ⟨v, tp, [.ty T, .ty T2], _, [.type T, .type T2], _, rfl, upd_same, .cons (.ty T) (.cons (.ty T2) .nil), tyName_ty (s1.new n) (r1.mono (ext_new s1 n).w) e, kit_any (tyName_in e) (Ts := [T, T2]) ?_, ?_⟩⟩
        · intro U hU
          rcases List.mem_cons.mp hU with rfl | hU
          · exact hT
          · rw [List.mem_singleton.mp hU]; exact hT2
        · exact w1 _ _ _ (ext_new s1 n) (s1.new n) (.bl _)
      · exact w1.elim⟩
end
end
end DL
namespace DL
noncomputable section
open PySem PySem.Spec PyProof.Rows L2

/-! ### targets: names and tuples of them -/
inductive Pat where
  | nm (i : Nat) | tp (ps : List Pat)
mutual
def Pat.set : Pat → DV → Sig → Option Sig
  | .nm i, d, δ => some (δ.set i (some d))
  | .tp ps, d, δ => match d with
    | .p (.tup xs) => Pat.sets ps (xs.map DV.p) δ
    | .p (.lst xs) => Pat.sets ps (xs.map DV.p) δ
    | _ => none
def Pat.sets : List Pat → List DV → Sig → Option Sig
  | [], [], δ => some δ
  | q :: qs, x :: xs, δ => (Pat.set q x δ).bind fun δ' => Pat.sets qs xs δ'
  | _, _, _ => none
end
mutual
def Pat.slots : Pat → List Nat
  | .nm i => [i]
  | .tp ps => Pat.slotss ps
def Pat.slotss : List Pat → List Nat
  | [] => []
  | q :: qs => Pat.slots q ++ Pat.slotss qs
end
def gOr (t u : TG) : TG := fun v σ H Q => t v σ H Q ∨ u v σ H Q
mutual
def tPat (K : PySem.W.Frag) : Pat → TG
  | .nm i => gName i
  | .tp ps => gOr (gTup K ps.length (tPats K ps)) (gLst K ps.length (tPats K ps))
def tPats (K : PySem.W.Frag) : List Pat → TGs
  | [] => gNil
  | q :: qs => gCons (tPat K q) (tPats K qs)
end
theorem PG.or {X : Cx} {e : Expr} {t u : TG} (h : PG X e t) (h' : PG X e u) : PG X e (gOr t u) := ⟨fun pins s σ H v w Q I r q => by
  rcases q with q | q
  · exact h.run pins s σ H v w Q I r q
  · exact h'.run pins s σ H v w Q I r q⟩
theorem wipe_set (i : Nat) (v : Option V) : ∀ (vs : List Nat) (σ : L2.St), i ∈ vs → L2.wipe (σ.set i v) vs = L2.wipe σ vs
  | [], _, h => nomatch h
  | j :: vs, σ, h => by
    show (L2.wipe (σ.set i v) vs).set j none = (L2.wipe σ vs).set j none
    by_cases e : i = j
    · subst e
      have go : ∀ (vs : List Nat) (σ : L2.St), (L2.wipe (σ.set i v) vs).set i none = (L2.wipe σ vs).set i none := by
        intro vs
        induction vs with
        | nil => intro σ; show (σ.set i v).set i none = σ.set i none; rw [List.set_set]
        | cons k vs ih =>
          intro σ
          show ((L2.wipe (σ.set i v) vs).set k none).set i none = ((L2.wipe σ vs).set k none).set i none
          by_cases e : k = i
          · subst e; rw [List.set_set, List.set_set]; exact ih σ
          · rw [List.set_comm _ _ e, ih σ, List.set_comm _ _ (Ne.symm e)]
      exact go vs σ
    · rw [wipe_set i v vs σ ((List.mem_cons.mp h).resolve_left e)]
theorem sets_len : ∀ (qs : List Pat) {ps : List DV} {δ δ' : Sig}, Pat.sets qs ps δ = some δ' → ps.length = qs.length
  | [], [], _, _, _ => rfl
  | [], _ :: _, _, _, e => by simp [Pat.sets] at e
  | _ :: _, [], _, _, e => by simp [Pat.sets] at e
  | q :: qs, x :: xs, _, _, e => by
    simp only [Pat.sets, Option.bind_eq_some_iff] at e
    obtain ⟨δ1, e1, e2⟩ := e
    exact congrArg (· + 1) (sets_len qs e2)
section
variable {M : Wd} {as : As} {H : Hp}
theorem PRs.dvrs : ∀ {vs : List V} {ps : List PV}, PRs M as H vs ps → DVRs M as H vs (ps.map DV.p)
  | _, _, .nil => .nil
  | _, _, .cons r t => .cons r (PRs.dvrs t)
theorem KRs.dvrs : ∀ {vs : List V} {ks : List Nat}, KRs as vs ks → DVRs M as H vs (ks.map DV.c)
  | _, _, .nil => .nil
  | _, _, .cons r t => .cons r (KRs.dvrs t)
theorem DVRs.get : ∀ {vs : List V} {ds : List DV} {i : Nat} {d : DV}, DVRs M as H vs ds → ds[i]? = some d → ∃ v, vs[i]? = some v ∧ DVR M as H v d
  | _, _, i, d, .nil, e => by simp at e
  | _, _, 0, d, .cons r _, e => by simp at e; subst e; exact ⟨_, rfl, r⟩
  | _, _, i + 1, d, .cons _ t, e => by
    obtain ⟨u, h1, h2⟩ := DVRs.get (i := i) (d := d) t (by simpa using e)
    exact ⟨u, by simpa using h1, h2⟩
mutual
theorem tPat_ok : ∀ (q : Pat) {v : V} {p : DV} {σ : L2.St} {δ δ' : Sig} {Q : L2.St → Hp → Prop}, ER M as H σ δ → DVR M as H v p → q.set p δ = some δ' →
    (∀ σ', ER M as H σ' δ' → (∀ vs, (∀ i ∈ q.slots, i ∈ vs) → L2.wipe σ' vs = L2.wipe σ vs) → Q σ' H) → tPat M.K q v σ H Q
  | .nm i, v, p, σ, δ, δ', Q, er, r, e, k => by
    simp only [Pat.set, Option.some.injEq] at e
    subst e
    exact k _ (er.set (d := p) r i) fun vs h => wipe_set i _ vs σ (h i (by simp [Pat.slots]))
  | .tp ps, v, p, σ, δ, δ', Q, er, r, e, k => by
    simp only [Pat.set] at e
    split at e
    · rename_i xs
      cases r with
      | tup h t =>
        exact .inl ⟨_, _, rfl, h.sq, t.length.trans ((List.length_map DV.p).symm.trans (sets_len ps e)), tPats_ok ps er t.dvrs e k⟩
    · rename_i xs
      cases r with
      | lst h t =>
        exact .inr ⟨_, _, rfl, h.sq, t.length.trans ((List.length_map DV.p).symm.trans (sets_len ps e)), tPats_ok ps er t.dvrs e k⟩
    · cases e
theorem tPats_ok : ∀ (qs : List Pat) {vs : List V} {ps : List DV} {σ : L2.St} {δ δ' : Sig} {Q : L2.St → Hp → Prop}, ER M as H σ δ → DVRs M as H vs ps → Pat.sets qs ps δ = some δ' →
    (∀ σ', ER M as H σ' δ' → (∀ ws, (∀ i ∈ Pat.slotss qs, i ∈ ws) → L2.wipe σ' ws = L2.wipe σ ws) → Q σ' H) → tPats M.K qs vs σ H Q
  | [], _, [], σ, δ, δ', Q, er, .nil, e, k => by
    simp only [Pat.sets, Option.some.injEq] at e
    subst e
    exact ⟨rfl, k σ er fun _ _ => rfl⟩
  | [], _, _ :: _, σ, δ, δ', Q, er, _, e, k => by simp [Pat.sets] at e
  | q :: qs, _, [], σ, δ, δ', Q, er, _, e, k => by simp [Pat.sets] at e
  | q :: qs, _, x :: xs, σ, δ, δ', Q, er, .cons r t, e, k => by
    simp only [Pat.sets, Option.bind_eq_some_iff] at e
    obtain ⟨δ1, e1, e2⟩ := e
    refine ⟨_, _, rfl, ?_⟩
    exact tPat_ok q er r e1 fun σ1 er1 w1 => tPats_ok qs er1 t e2 fun σ2 er2 w2 => k σ2 er2 fun ws hw => by
      rw [w2 ws fun i hi => hw i (by simp [Pat.slotss, hi]), w1 ws fun i hi => hw i (by simp [Pat.slotss, hi])]
end
end
abbrev DG (X : Cx) (tg : Expr) (q : Pat) : Prop := PG X tg (tPat X.K q)
abbrev DGs (X : Cx) (tgs : List Expr) (qs : List Pat) : Prop := PGs X tgs (tPats X.K qs)
section
variable {X : Cx} {e : Expr} {es : List Expr} {q : Pat} {qs : List Pat} {pos : Pos}
theorem dg_nm {i : Nat} {x : Str} (hN : X.N.Nodup) (hi : X.N[i]? = some x) (hx : Loc X.env.scope x) (hf : X.fn x = true ∨ X.env.scope.names.lookup x = some .local := by first | exact .inl rfl | exact .inr rfl | assumption) : DG X (.Name x pos) (.nm i) := pg_name hN hi hx hf
theorem dgs_nil : DGs X [] [] := pgs_nil
theorem dgs_cons (h : DG X e q) (t : DGs X es qs) (hs : (assignEach (e :: es) X.env).map (·.2) = assign e X.env :: (assignEach es X.env).map (·.2) := by rfl) : DGs X (e :: es) (q :: qs) := pgs_cons h t hs
theorem dg_tp {k : Nat} (hc : X.calm = true) (h : DGs X es qs) (hn : (assignEach es X.env).length = qs.length := by rfl) (hst : (assignEach es X.env).findIdx? (·.1) = none := by rfl) : DG X (.Tuple es k pos) (.tp qs) :=
  PG.or (pg_tup hc h hn hst) (pg_lst hc h hn hst)
end

/-! ### what is walked -/
structure Yields (M : Wd) (J : It) (xs : List DV) (ck : AH → Prop) (as0 : As) (H0 : Hp) : Prop where
  stop : ∀ as H S, Exw as0 H0 as H → SR M as H S → ck S → J.stop xs.length H
  go : ∀ as H S, Exw as0 H0 as H → SR M as H S → ck S → ∀ i, i < xs.length → J.go i H
  yld : ∀ as H S, Exw as0 H0 as H → SR M as H S → ck S → ∀ (i : Nat) (p : DV) (v : V) (H' : Hp), xs[i]? = some p → J.yld i H v H' → Ext as H as H' ∧ SR M as H' S ∧ DVR M as H' v p
abbrev Its' := List DV × (AH → Prop)
def tI (M : Wd) (E : L2.St → XK) (f : Sig → AH → Res Its') : TI := fun σ H R => ∃ as δ S, SR M as H S ∧ ER M as H σ δ ∧ WR M (E σ) (fun as H J (x : Its') => Yields M J x.1 x.2 as H) as H (f δ S) R
abbrev DI (X : Cx) (E : L2.St → XK) (tg e : Expr) (f : Sig → AH → Res Its') : Prop := PI X tg e (tI (wd X) E f)
theorem PI.imp {X : Cx} {tg e : Expr} {t t' : TI} (h : PI X tg e t) (i : ∀ σ H Q, t' σ H Q → t σ H Q) : PI X tg e t' := ⟨fun pins s σ H Q I q => h.run pins s σ H Q I (i σ H Q q)⟩
def iSeq (K : PySem.W.Frag) (tl : TE) : TI := fun σ H R => tl σ H fun x H1 => (∃ a, x = .ref a ∧ (∃ xs, SqL K H1 a xs) ∧ R (Itl K a) H1) ∨ (∃ a, x = .ref a ∧ (∃ xs, SqT K H1 a xs) ∧ R (Itt K a) H1) ∨ (∃ z, x = .str z ∧ R (Its z) H1)
theorem pi_seq {X : Cx} {tg l : Expr} {tl : TE} (hl : PE X l tl) : PI X tg l (iSeq X.K tl) := by
  refine ⟨fun pins s σ H R I h => ?_⟩
  refine thn (hl.run pins s σ H _ I h) fun v s1 ⟨x, H1, I1, r1, q1⟩ => ?_
  rcases q1 with ⟨a, e, ⟨xs, hq⟩, q⟩ | ⟨a, e, ⟨xs, hq⟩, q⟩ | ⟨z, e, q⟩
  · subst e
    cases r1
    obtain ⟨its, rv, p, hz⟩ := I1.list hq
    refine wpAny_pyIter_list p.isList ?_
    refine ⟨s1.heap.objs.size, [s1.heap.objs.size], _, _, H1, rfl, I1.kept (t' := s1.toks) fun b o e => Heap.get?_push_of_some _ e, turn_list a _, ⟨_, Heap.get?_push_size _ rfl, rfl, rfl⟩, fun b hb => ?_, q⟩
    have e : b = s1.heap.objs.size := by simpa using hb
    subst e
    exact I1.fpOk (Nat.le_refl _) (I1.hok.fresh (Nat.le_refl _))
  · subst e
    cases r1
    obtain ⟨its, rv, p, hz⟩ := I1.tuple hq
    refine wpAny_pyIter_tuple (show s1.heap.IsTuple a its.toArray from p) ?_
    refine ⟨s1.heap.objs.size, [s1.heap.objs.size], _, _, H1, rfl, I1.kept (t' := s1.toks) fun b o e => Heap.get?_push_of_some _ e, turn_tuple a _, ⟨_, Heap.get?_push_size _ rfl, rfl, rfl⟩, fun b hb => ?_, q⟩
    have e : b = s1.heap.objs.size := by simpa using hb
    subst e
    exact I1.fpOk (Nat.le_refl _) (I1.hok.fresh (Nat.le_refl _))
  · subst e
    obtain ⟨t, rfl⟩ := r1
    cases ha : z.cps.all (· < 128)
    · exact wpAny_pyIter_wide ha (pi_one (tk := s1.toks) I1 _ (turn_str _ z t "str_iterator" (.inr rfl)) ⟨_, Heap.get?_push_size _ rfl, rfl, rfl⟩ q)
    · exact wpAny_pyIter_ascii ha (pi_one (tk := s1.toks) I1 _ (turn_str _ z t "str_ascii_iterator" (.inl rfl)) ⟨_, Heap.get?_push_size _ rfl, rfl, rfl⟩ q)
/-- the signs of a text -/
def signs (z : Str) : List DV := z.cps.toList.map fun c => .p (.str ⟨#[c]⟩)
def dit (xs : List PV) : List DV := xs.map DV.p
def dic (ks : List Nat) : List DV := ks.map DV.c
@[simp] theorem dit_nil : dit [] = [] := (rfl)
@[simp] theorem dit_cons {x : PV} {xs : List PV} : dit (x :: xs) = .p x :: dit xs := (rfl)
@[simp] theorem dit_len {xs : List PV} : (dit xs).length = xs.length := List.length_map _
@[simp] theorem dic_nil : dic [] = [] := (rfl)
@[simp] theorem dic_cons {k : Nat} {ks : List Nat} : dic (k :: ks) = .c k :: dic ks := (rfl)
@[simp] theorem dic_len {ks : List Nat} : (dic ks).length = ks.length := List.length_map _
def dSeqI (fa : Sig → AH → Res DV) : Sig → AH → Res Its' := fun δ S => (fa δ S).bind fun d S => match d with
  | .p (.tup xs) => .ok (dit xs, fun _ => True) S
  | .p (.lst xs) => .ok (dit xs, fun _ => True) S
  | .p (.fro xs) => .ok (dit xs, fun _ => True) S
  | .p (.str z) => .ok (signs z, fun _ => True) S
  | .c n => match S[n]? with
    | some (.lst xs) => .ok (dit xs, fun S' => S'[n]? = some (.lst xs)) S
    | some (.nst ks) => .ok (dic ks, fun S' => S'[n]? = some (.nst ks)) S
    | none => .bad
  | _ => .bad
theorem yields_lst {M : Wd} {as0 : As} {H0 : Hp} {a : Addr} {xs : List DV} {ck : AH → Prop} (h : ∀ as H S, Exw as0 H0 as H → SR M as H S → ck S → ∃ vs, SqL M.K H a vs ∧ DVRs M as H vs xs) : Yields M (Itl M.K a) xs ck as0 H0 where
  stop as H S x s c := by
    obtain ⟨vs, q, t⟩ := h as H S x s c
    exact ⟨vs, q, by rw [Paired.length t]; exact Nat.le_refl _⟩
  go as H S x s c i hi := by
    obtain ⟨vs, q, t⟩ := h as H S x s c
    have hi' : i < vs.length := by rw [Paired.length t]; exact hi
    exact ⟨vs, vs[i], q, List.getElem?_eq_getElem hi'⟩
  yld as H S x s c i p v H' hp y := by
    obtain ⟨vs, q, t⟩ := h as H S x s c
    obtain ⟨e, y⟩ := y
    subst e
    obtain ⟨w, e1, r⟩ := DVRs.get t hp
    rw [y vs q] at e1; cases e1
    exact ⟨Ext.refl _ _, s, r⟩
theorem yields_tup {M : Wd} {as0 : As} {H0 : Hp} {a : Addr} {xs : List DV} {ck : AH → Prop} (h : ∀ as H S, Exw as0 H0 as H → SR M as H S → ck S → ∃ vs, SqT M.K H a vs ∧ DVRs M as H vs xs) : Yields M (Itt M.K a) xs ck as0 H0 where
  stop as H S x s c := by
    obtain ⟨vs, q, t⟩ := h as H S x s c
    exact ⟨vs, q, by rw [Paired.length t]; exact Nat.le_refl _⟩
  go as H S x s c i hi := by
    obtain ⟨vs, q, t⟩ := h as H S x s c
    have hi' : i < vs.length := by rw [Paired.length t]; exact hi
    exact ⟨vs, vs[i], q, List.getElem?_eq_getElem hi'⟩
  yld as H S x s c i p v H' hp y := by
    obtain ⟨vs, q, t⟩ := h as H S x s c
    obtain ⟨e, y⟩ := y
    subst e
    obtain ⟨w, e1, r⟩ := DVRs.get t hp
    rw [y vs q] at e1; cases e1
    exact ⟨Ext.refl _ _, s, r⟩
theorem yields_str {M : Wd} {as0 : As} {H0 : Hp} {z : Str} {ck : AH → Prop} : Yields M (Its z) (signs z) ck as0 H0 where
  stop as H S x s c := by
    show z.cps.size ≤ (signs z).length
    unfold signs
    simp
  go as H S x s c i hi := by
    show i < z.cps.size
    unfold signs at hi
    simpa using hi
  yld as H S x s c i p v H' hp y := by
    obtain ⟨e, cc, e1, e2⟩ := y
    subst e e2
    unfold signs at hp
    rw [List.getElem?_map, Array.getElem?_toList, e1] at hp
    cases hp
    exact ⟨Ext.refl _ _, s, PR.str _⟩
/-- lo, lo + 1, .. -/
def rangeI (lo : Int) (n : Nat) : List DV := (List.range n).map fun (i : Nat) => DV.p (.int (lo + (i : Int)))
def rangeC (lo c : Int) (n : Nat) : List DV := (List.range n).map fun (i : Nat) => DV.p (.int (lo + (i : Int) * c))
theorem yields_rng {M : Wd} {as0 : As} {H0 : Hp} {lo : Int} {n : Nat} {ck : AH → Prop} : Yields M (Itr lo n) (rangeI lo n) ck as0 H0 where
  stop as H S x s c := by
    show n ≤ (rangeI lo n).length
    unfold rangeI
    simp
  go as H S x s c i hi := by
    show i < n
    unfold rangeI at hi
    simpa using hi
  yld as H S x s c i p v H' hp y := by
    obtain ⟨e, e2⟩ := y
    subst e e2
    unfold rangeI at hp
    have hi : i < n := by
      have := (List.getElem?_eq_some_iff.mp hp).1
      simpa using this
    rw [List.getElem?_map, List.getElem?_range hi] at hp
    cases hp
    exact ⟨Ext.refl _ _, s, PR.int _⟩
theorem yields_rngC {M : Wd} {as0 : As} {H0 : Hp} {lo cc : Int} {n : Nat} {ck : AH → Prop} : Yields M (Itc lo cc n) (rangeC lo cc n) ck as0 H0 where
  stop as H S x s c := by
    show n ≤ (rangeC lo cc n).length
    unfold rangeC
    simp
  go as H S x s c i hi := by
    show i < n
    unfold rangeC at hi
    simpa using hi
  yld as H S x s c i p v H' hp y := by
    obtain ⟨e, e2⟩ := y
    subst e e2
    unfold rangeC at hp
    have hi : i < n := by
      have := (List.getElem?_eq_some_iff.mp hp).1
      simpa using this
    rw [List.getElem?_map, List.getElem?_range hi] at hp
    cases hp
    exact ⟨Ext.refl _ _, s, PR.int _⟩
def small62 (i : Int) : Prop := -(2 ^ 62) ≤ i ∧ i < 2 ^ 62
noncomputable instance (i : Int) : Decidable (small62 i) := Classical.propDecidable _
def dRng1 (fs : Sig → AH → Res (List DV)) : Sig → AH → Res Its' := fun δ S => (fs δ S).bind fun ds S => match ds with
  | [.p (.int j)] => if small62 j then .ok (rangeI 0 j.toNat, fun _ => True) S else .bad
  | _ => .bad
def dRng2 (fs : Sig → AH → Res (List DV)) : Sig → AH → Res Its' := fun δ S => (fs δ S).bind fun ds S => match ds with
  | [.p (.int i), .p (.int j)] => if small62 i ∧ small62 j then .ok (rangeI i (j - i).toNat, fun _ => True) S else .bad
  | _ => .bad
/-- downwards by ones -/
def dRng3 (fs : Sig → AH → Res (List DV)) : Sig → AH → Res Its' := fun δ S => (fs δ S).bind fun ds S => match ds with
  | [.p (.int i), .p (.int j), .p (.int c)] => if c = -1 ∧ small62 i ∧ small62 j then .ok (rangeC i (-1) (i - j).toNat, fun _ => True) S else .bad
  | _ => .bad
section
variable {X : Cx} {E : L2.St → XK} {tg a b c : Expr} {p pos : Pos} {fa : Sig → AH → Res DV} {fs : Sig → AH → Res (List DV)}
theorem di_seq (ha : DE X E a fa) : DI X E tg a (dSeqI fa) := PI.imp (pi_seq ha) fun σ H R ⟨as, δ, S, sr, er, w⟩ =>
  ⟨as, δ, S, sr, er, w.bind.mono fun _ _ _ H1 v _ _ _ _ ⟨as1, S1, d1, _, x1, s1, r1, w1⟩ => by
    split at w1
    · cases r1 with
      | tup h t => exact .inr (.inl ⟨_, rfl, ⟨_, h.sq⟩, WR.pure w1 s1 (yields_tup fun as H S x s c => ⟨_, (h.mono x).sq, (t.mono x).dvrs⟩)⟩)
    · cases r1 with
      | lst h t => exact .inl ⟨_, rfl, ⟨_, h.sq⟩, WR.pure w1 s1 (yields_lst fun as H S x s c => ⟨_, (h.mono x).sq, (t.mono x).dvrs⟩)⟩
    · cases r1 with
      | fro h t => exact .inl ⟨_, rfl, ⟨_, h.sq⟩, WR.pure w1 s1 (yields_lst fun as H S x s c => ⟨_, (h.mono x).sq, (t.mono x).dvrs⟩)⟩
    · cases r1
      exact .inr (.inr ⟨_, rfl, WR.pure w1 s1 yields_str⟩)
    · obtain ⟨a, ea, rfl⟩ := r1
      split at w1
      · rename_i xs q
        obtain ⟨b, vs, eb, z, hb, t⟩ := s1.at q
        rw [ea] at eb; cases eb
        refine .inl ⟨_, rfl, ⟨_, .of hb⟩, WR.pure w1 s1 (yields_lst fun as H S x s c => ?_)⟩
        obtain ⟨b, vs, eb, z, hb, t⟩ := s.at c
        rw [x.get ea] at eb; cases eb
        exact ⟨_, .of hb, t.dvrs⟩
      · rename_i ks q
        obtain ⟨b, vs, eb, z, hb, t⟩ := s1.atN q
        rw [ea] at eb; cases eb
        refine .inl ⟨_, rfl, ⟨_, .of hb⟩, WR.pure w1 s1 (yields_lst fun as H S x s c => ?_)⟩
        obtain ⟨b, vs, eb, z, hb, t⟩ := s.atN c
        rw [x.get ea] at eb; cases eb
        exact ⟨_, .of hb, KRs.dvrs t⟩
      · exact w1.elim
    · exact w1.elim⟩
theorem di_rng1 (hg : Gl X "range") (hm : X.mg "range" = none) (ha : DA X E [a] fs) (hs : starEach [a] X.env = [(false, eval a X.env)] := by rfl) : DI X E tg (.Call (.Name "range" p) [a] [] pos) (dRng1 fs) := PI.imp (pi_range1 hg hm ha hs) fun σ H R ⟨as, δ, S, sr, er, w⟩ =>
  ⟨as, δ, S, sr, er, w.bind.mono fun _ _ _ H1 v _ _ _ _ ⟨as1, S1, d1, _, x1, s1, r1, w1⟩ => by
    split at w1
    · obtain ⟨v, rfl, r⟩ := DVRs.one r1
      cases r
      split at w1
      · rename_i z
        exact ⟨_, rfl, z.1, z.2, WR.pure w1 s1 yields_rng⟩
      · exact w1.elim
    · exact w1.elim⟩
theorem di_rng2 (hg : Gl X "range") (hm : X.mg "range" = none) (ha : DA X E [a, b] fs) (hs : starEach [a, b] X.env = [(false, eval a X.env), (false, eval b X.env)] := by rfl) (hs2 : starEach [b] X.env = [(false, eval b X.env)] := by rfl) : DI X E tg (.Call (.Name "range" p) [a, b] [] pos) (dRng2 fs) := PI.imp (pi_range2 hg hm ha hs hs2) fun σ H R ⟨as, δ, S, sr, er, w⟩ =>
  ⟨as, δ, S, sr, er, w.bind.mono fun _ _ _ H1 v _ _ _ _ ⟨as1, S1, d1, _, x1, s1, r1, w1⟩ => by
    split at w1
    · obtain ⟨v, v2, rfl, r, r'⟩ := DVRs.two r1
      cases r; cases r'
      split at w1
      · rename_i z
        exact ⟨_, _, rfl, ⟨z.1.1, z.1.2, z.2.1, z.2.2⟩, WR.pure w1 s1 yields_rng⟩
      · exact w1.elim
    · exact w1.elim⟩
theorem DVRs.three {M : Wd} {as : As} {H : Hp} {vs : List V} {d e f : DV} (r : DVRs M as H vs [d, e, f]) : ∃ v w u, vs = [v, w, u] ∧ DVR M as H v d ∧ DVR M as H w e ∧ DVR M as H u f := by
  cases r with
  | cons h t =>
    obtain ⟨w, u, rfl, h2, h3⟩ := DVRs.two t
    exact ⟨_, _, _, rfl, h, h2, h3⟩
theorem di_rng3 (hg : Gl X "range") (hm : X.mg "range" = none) (ha : DA X E [a, b, c] fs) (hs : starEach [a, b, c] X.env = (false, eval a X.env) :: starEach [b, c] X.env := by rfl) (hpl : (backTo pos (starEach [b, c] X.env)).any (·.1) = false := by rfl) : DI X E tg (.Call (.Name "range" p) [a, b, c] [] pos) (dRng3 fs) := PI.imp (pi_range3 hg hm ha hs hpl) fun σ H R ⟨as, δ, S, sr, er, w⟩ =>
  ⟨as, δ, S, sr, er, w.bind.mono fun _ _ _ H1 v _ _ _ _ ⟨as1, S1, d1, _, x1, s1, r1, w1⟩ => by
    split at w1
    · obtain ⟨v, v2, v3, rfl, r, r', r''⟩ := DVRs.three r1
      cases r; cases r'; cases r''
      split at w1
      · rename_i z
        obtain ⟨rfl, z1, z2⟩ := z
        exact ⟨_, _, _, _, rfl, RgC.neg z1.1 z1.2 z2.1 z2.2, WR.pure w1 s1 yields_rngC⟩
      · exact w1.elim
    · exact w1.elim⟩
end
end
end DL
namespace DL
noncomputable section
open PySem PySem.Spec PyProof.Rows L2

/-! ### what a body may let out -/
structure Gd (X : Cx) (E : L2.St → XK) : Prop where
  calm : X.calm = true
  tk : Takes X (fun cls d σ H => E σ cls d H)
  po : PassesOwn (model X.prog X.w) X.A X.env X.xe
theorem Gd.pass {X : Cx} {E : L2.St → XK} (g : Gd X E) (σ : L2.St) : PassesAt (L2.CX X.prog X.w) X σ (E σ) := passAt (W := fun cls d σ H => E σ cls d H) g.tk σ
abbrev EN : L2.St → XK := fun _ _ _ _ => False
theorem Gd.blk {X : Cx} {E : L2.St → XK} (g : Gd X E) (s : Shared) (H : Hp) (scope : Scope) (cenv : Env) (fp : List Addr) : Gd (X.blk s H scope cenv fp) EN := ⟨g.calm, takes0, .never⟩

/-! ### calls of defs -/
def spD (B : Wd) (F : List DV → AH → Res DV) : Sp := fun vs H Q E => ∃ as ds S, SR B as H S ∧ DVRs B as H vs ds ∧ WR B E (DVR B) as H (F ds S) Q
def dCall (F : List DV → AH → Res DV) (fs : Sig → AH → Res (List DV)) : Sig → AH → Res DV := fun δ S => (fs δ S).bind fun ds S => F ds S
section
variable {X : Cx} {E : L2.St → XK} {k : Nat} {f : Addr} {fd : FuncData} {ps : List Str} {F : List DV → AH → Res DV} {x : Str} {p pos : Pos} {a : Expr} {es : List Expr} {fs : Sig → AH → Res (List DV)}
theorem de_call (g : Gd X E) (G : FnOk X.prog X.w X.K X.mg X.base (L2.CX X.prog X.w) k f fd ps (spD ⟨X.K, X.mg⟩ F)) (hr : Room k X.A) (hg : Gl X x) (hm : X.mg x = some (.ref f)) (hk : PySem.W.keepIn X.K (.ref f) = true) (hb : Binds X.K fd ps [])
    (ha : DA X E (a :: es) fs) (hdb : (x == ("__debug__" : Str)) = false := by decide) (he : starEach (a :: es) X.env = (false, eval a X.env) :: starEach es X.env := by rfl) (hpl : (backTo pos (starEach es X.env)).any (·.1) = false := by rfl) :
    DE X E (.Call (.Name x p) (a :: es) [] pos) (dCall F fs) := (pe_callS G hr hg hm hk hb (fun σ => g.pass σ) ha hdb he hpl).imp fun σ H Q ⟨as, δ, S, sr, er, w⟩ =>
  ⟨as, δ, S, sr, er, w.bind.mono fun _ _ _ _ _ _ _ _ _ ⟨as1, S1, ds, _, x1, s1, r1, w1⟩ => ⟨as1, ds, S1, s1, r1, w1⟩⟩
end

/-! ### comprehensions -/
/-- within a comprehension nothing may be raised -/
def _root_.DL.Res.nox {α : Type} : Res α → Res α
  | .exc _ _ _ => .bad
  | r => r
@[simp] theorem nox_ok {α : Type} (a : α) (S : AH) : (Res.ok a S).nox = .ok a S := rfl
@[simp] theorem nox_bad {α : Type} : (Res.bad : Res α).nox = .bad := rfl
@[simp] theorem nox_exc {α : Type} (c : Str) (p : List (Str × PV)) (S : AH) : (Res.exc c p S : Res α).nox = .bad := rfl
open Classical in
/-- a comprehension's turns -/
noncomputable def lcGo (ck : AH → Prop) (q : Pat) (fc : Sig → AH → Res Bool) (fe : Sig → AH → Res DV) (δ : Sig) : List DV → AH → Res (List PV)
  | [], S => if ck S then .ok [] S else .bad
  | x :: xs, S => if ck S then match q.set x δ with
    | none => .bad
    | some δ2 => (fc δ2 S).nox.bind fun b S1 => if b = true then (fe δ2 S1).nox.bind fun d S2 => match d with
        | .p y => (lcGo ck q fc fe δ xs S2).bind fun ys S3 => .ok (y :: ys) S3
        | .c _ => .bad
      else lcGo ck q fc fe δ xs S1
    else .bad
noncomputable def dLc (fi : Sig → AH → Res Its') (q : Pat) (fc : Sig → AH → Res Bool) (fe : Sig → AH → Res DV) (vs : List Nat) : Sig → AH → Res (List PV) := fun δ S => (fi δ S).bind fun x S1 => if x.1.length ≤ 16777216 then lcGo x.2 q fc fe (wipeD δ vs) x.1 S1 else .bad
def dYes : Sig → AH → Res Bool := fun _ S => .ok true S
abbrev DTs (X : Cx) (E : L2.St → XK) (cs : List Expr) (f : Sig → AH → Res Bool) : Prop := PTs X cs (tDT (wd X) E f)
section
variable {X : Cx} {E : L2.St → XK} {c : Expr} {fc : Sig → AH → Res Bool}
theorem dts_nil : DTs X E [] dYes := ⟨fun pins s σ H Q I ⟨as, δ, S, sr, er, w⟩ => pts_nil.run pins s σ H Q I (WR.pure (b := true) w sr rfl)⟩
theorem dts_one (h : DT X E c fc) : DTs X E [c] fc := pts_one h
end
/-- exceptions never come -/
theorem WF.nox {M : Wd} {E0 E1 : XK} {as : As} {H : Hp} {α β : Type} {R : As → Hp → β → α → Prop} {r : Res α} {k : α → AH → Res (List PV)} {Q : VK} {Q' : β → Hp → Prop} (w : WF M E0 as H (r.nox.bind k) Q)
    (h : ∀ a S, r = .ok a S → WF M E0 as H (k a S) Q → ∀ as' H' b, Ext as H as' H' → SR M as' H' S → R as' H' b a → Q' b H') : ∀ {as2 H2}, as2 = as → H2 = H → WR M E1 R as2 H2 r Q' := by
  rintro _ _ rfl rfl
  cases r with
  | ok a S => exact fun as' H' b e s q => h a S rfl w as' H' b e s q
  | exc c p S => exact w.elim
  | bad => exact w.elim
theorem nox_cases {α β : Type} {r : Res α} {k : α → AH → Res β} (P : Res β → Prop) (hb : P .bad → False) (w : P (r.nox.bind k)) : ∃ a S, r = .ok a S ∧ P (k a S) := by
  cases r with
  | ok a S => exact ⟨a, S, rfl, w⟩
  | exc c p S => exact (hb w).elim
  | bad => exact (hb w).elim
theorem wipe_idem : ∀ (vs : List Nat) (σ : L2.St), L2.wipe (L2.wipe σ vs) vs = L2.wipe σ vs
  | [], _ => rfl
  | v :: vs, σ => by
    show (L2.wipe ((L2.wipe σ vs).set v none) vs).set v none = (L2.wipe σ vs).set v none
    have go : ∀ (us : List Nat) (τ : L2.St), (L2.wipe (τ.set v none) us).set v none = (L2.wipe τ us).set v none := by
      intro us
      induction us with
      | nil => intro τ; show (τ.set v none).set v none = τ.set v none; rw [List.set_set]
      | cons k us ih =>
        intro τ
        show ((L2.wipe (τ.set v none) us).set k none).set v none = ((L2.wipe τ us).set k none).set v none
        by_cases e : k = v
        · subst e; rw [List.set_set, List.set_set]; exact ih τ
        · rw [List.set_comm _ _ e, ih τ, List.set_comm _ _ (Ne.symm e)]
    rw [go vs (L2.wipe σ vs), wipe_idem vs σ]
theorem bind_assoc' {α β γ : Type} (r : Res α) (k : α → AH → Res β) (l : β → AH → Res γ) : (r.bind k).bind l = r.bind fun a S => (k a S).bind l := by cases r <;> rfl
section
variable {X : Cx} {E : L2.St → XK} {elt tg iter : Expr} {ifs : List Expr} {scope : Scope} {own : List (Str × Nat)} {pos : Pos} {fi : Sig → AH → Res Its'} {q : Pat} {fc : Sig → AH → Res Bool} {fe : Sig → AH → Res DV}
theorem lc_t {σ : L2.St} {H : Hp} {Q : VK} {as : As} {δ : Sig} {S : AH} {vs : List Nat} (hq : ∀ i ∈ q.slots, i ∈ vs) (sr : SR (wd X) as H S) (er : ER (wd X) as H σ δ) (w : WF (wd X) (E σ) as H (dLc fi q fc fe vs δ S) Q) :
    tLc (tI (wd X) E fi) (tPat X.K q) (tDT (wd X) EN fc) (tD (wd X) EN fe) vs σ H Q := by
  refine ⟨as, δ, S, sr, er, (WF.bind w).mono fun _ _ _ H1 J _ _ _ _ ⟨as1, S1, x, _, e1, s1, y1, w1⟩ => ?_⟩
  obtain ⟨xs, ck⟩ := x
  intro D nD
  have er1 := er.mono e1.w
  have nh : ¬ as1.hid D := (s1.fresh nD).2
  dsimp only at w1 y1
  have hz : xs.length ≤ 16777216 := by
    refine Classical.byContradiction fun n => ?_
    rw [if_neg n] at w1
    exact w1
  rw [if_pos hz] at w1
  refine ⟨fun i m H => m = xs.length - i ∧ i ≤ xs.length ∧ ∃ (asm : As) (Sm : AH) (accV : List V) (accP : List PV), H D = some (.lst accV) ∧ accV.length ≤ i ∧ Ext as1 H1 asm (del H D) ∧ SR (wd X) asm (del H D) Sm ∧ PRs (wd X) asm (del H D) accV accP ∧
      WF (wd X) (E σ) asm (del H D) ((lcGo ck q fc fe (wipeD δ vs) (xs.drop i) Sm).bind fun ys S => .ok (accP ++ ys) S) Q, ⟨xs.length, rfl, Nat.zero_le _, as1, S1, [], [], upd_same, Nat.zero_le _, ?_⟩, ?_⟩
  · rw [del_upd nD]
    refine ⟨Ext.refl _ _, s1, .nil, ?_⟩
    rw [List.drop_zero]
    have e : ((lcGo ck q fc fe (wipeD δ vs) xs S1).bind fun ys S => Res.ok ([] ++ ys) S) = lcGo ck q fc fe (wipeD δ vs) xs S1 := by
      cases lcGo ck q fc fe (wipeD δ vs) xs S1 <;> rfl
    rw [e]
    exact w1
  · rintro i m H2 ⟨rfl, hi, asm, Sm, accV, accP, hD, hlen, em, sm, tm, wm⟩
    have eH : upd (del H2 D) D (.lst accV) = H2 := upd_del hD
    have nm : del H2 D D = none := del_same _ _
    have nhm : ¬ asm.hid D := by rw [em.hids]; exact nh
    have sh : SR (wd X) (asm.hide D) H2 Sm := by have := sm.hide (o := .lst accV) nm; rw [eH] at this; exact this
    have xw : Exw as1 H1 (asm.hide D) H2 := by have := em.w.hide (o := .lst accV) nD; rw [eH] at this; exact this
    by_cases hlt : i < xs.length
    · have hx : xs[i]? = some xs[i] := List.getElem?_eq_getElem hlt
      have hd : xs.drop i = xs[i] :: xs.drop (i + 1) := List.drop_eq_getElem_cons hlt
      rw [hd] at wm
      unfold lcGo at wm
      have hck : ck Sm := by
        refine Classical.byContradiction fun n => ?_
        rw [if_neg n] at wm
        exact wm
      rw [if_pos hck] at wm
      refine .inr ⟨y1.go _ _ _ xw sh hck i hlt, fun H' => (i + 1 ≤ xs.length ∧ ∃ (asm : As) (Sm : AH) (accV : List V) (accP : List PV), H' D = some (.lst accV) ∧ accV.length ≤ i + 1 ∧ Ext as1 H1 asm (del H' D) ∧ SR (wd X) asm (del H' D) Sm ∧ PRs (wd X) asm (del H' D) accV accP ∧
        WF (wd X) (E σ) asm (del H' D) ((lcGo ck q fc fe (wipeD δ vs) (xs.drop (i + 1)) Sm).bind fun ys S => .ok (accP ++ ys) S) Q), fun H' n => ⟨xs.length - (i + 1), by omega, rfl, n.1, n.2⟩, fun v H' yv => ?_⟩
      obtain ⟨e3, s3, r3⟩ := y1.yld _ _ _ xw sh hck i _ v H' hx yv
      cases eq : q.set xs[i] (wipeD δ vs) with
      | none => rw [eq] at wm; exact wm.elim
      | some δ2 =>
        rw [eq] at wm
        dsimp only at wm
        rw [bind_assoc'] at wm
        have erh : ER (wd X) (asm.hide D) H' (L2.wipe σ vs) (wipeD δ vs) := ((er1.mono xw).wipe vs).mono e3.w
        refine tPat_ok (M := wd X) q erh r3 eq fun σ2 er2 wi2 => ⟨by rw [wi2 vs hq, wipe_idem], ?_⟩
        obtain ⟨b, Sb, eb, wb⟩ := nox_cases (fun r => WF (wd X) (E σ) asm (del H2 D) r Q) (fun z => z) wm
        refine ⟨asm.hide D, δ2, Sm, s3, er2, ?_⟩
        rw [eb]
        intro as4 H4 b4 e4 s4 q4
        cases q4
        have ec : Ext (asm.hide D) (upd (del H2 D) D (.lst accV)) as4 H4 := by rw [eH]; exact e3.trans e4
        cases b with
        | false =>
          rw [if_neg Bool.false_ne_true] at wb ⊢
          obtain ⟨u1, u2, u3⟩ := Ext.unhide nm nhm ec
          rw [u2] at s4
          exact ⟨hlt, ⟨as4.cells, asm.hid⟩, Sb, accV, accP, u3, by omega, em.trans u1, s4.unhide nhm, tm.mono u1.w, WF.later u1 wb⟩
        | true =>
          rw [if_pos rfl] at wb ⊢
          rw [bind_assoc'] at wb
          obtain ⟨d, Sd, ed, wd'⟩ := nox_cases (fun r => WF (wd X) (E σ) asm (del H2 D) r Q) (fun z => z) wb
          refine ⟨as4, δ2, Sb, s4, er2.mono e4.w, ?_⟩
          rw [ed]
          intro as5 H5 y e5 s5 r5
          have ec5 : Ext (asm.hide D) (upd (del H2 D) D (.lst accV)) as5 H5 := ec.trans e5
          obtain ⟨u1, u2, u3⟩ := Ext.unhide nm nhm ec5
          rw [u2] at s5 r5
          cases d with
          | c n => exact wd'.elim
          | p yv =>
            refine ⟨accV, u3, ?_, hlt, ⟨as5.cells, asm.hid⟩, Sd, accV ++ [y], accP ++ [yv], upd_same, by rw [List.length_append, List.length_singleton]; omega, ?_⟩
            · have hs : sizeLine = 16777216 := by decide
              omega
            rw [del_updu]
            refine ⟨em.trans u1, s5.unhide nhm, (tm.mono u1.w).append (.cons (PR.unhide r5) .nil), ?_⟩
            have e : ((lcGo ck q fc fe (wipeD δ vs) (xs.drop (i + 1)) Sd).bind fun ys S => Res.ok (accP ++ [yv] ++ ys) S) = ((lcGo ck q fc fe (wipeD δ vs) (xs.drop (i + 1)) Sd).bind fun ys S => Res.ok (yv :: ys) S).bind fun ys S => Res.ok (accP ++ ys) S := by
              cases lcGo ck q fc fe (wipeD δ vs) (xs.drop (i + 1)) Sd <;> simp [Res.bind]
            rw [e]
            exact WF.later u1 wd'
    · have hi' : i = xs.length := by omega
      subst hi'
      rw [List.drop_length] at wm
      unfold lcGo at wm
      have hck : ck Sm := by
        refine Classical.byContradiction fun n => ?_
        rw [if_neg n] at wm
        exact wm
      rw [if_pos hck] at wm
      refine .inl ⟨y1.stop _ _ _ xw sh hck, ?_⟩
      have wq : WF (wd X) (E σ) asm (del H2 D) (Res.ok (accP ++ []) Sm) Q := wm
      rw [List.append_nil] at wq
      have := wq.here sm (by have hs : sizeLine = 16777216 := by decide
                             omega) tm nm
      rw [eH] at this
      exact this
theorem fe_lc (g : Gd X E) (hN : X.N.Nodup) (hi : DI X E tg iter fi) (ok : BlkOk X.N X.env.scope scope own)
    (hg : ∀ (s : Shared) (H : Hp) (C : Addr) (cl : List (Str × Addr)) (fp : List Addr), DG (X.blk s H scope (compEnvC scope cl C X.env) fp) tg q) (ht : ∀ (s : Shared) (H : Hp) (C : Addr) (cl : List (Str × Addr)) (fp : List Addr), DTs (X.blk s H scope (compEnvC scope cl C X.env) fp) EN ifs fc)
    (he : ∀ (s : Shared) (H : Hp) (C : Addr) (cl : List (Str × Addr)) (fp : List Addr), DE (X.blk s H scope (compEnvC scope cl C X.env) fp) EN elt fe) (hq : ∀ i ∈ q.slots, i ∈ own.map (·.2)) (hs : ∀ x, foldedSetIterable iter X.env x = pure x := by intro _; rfl) :
    FE X E (.ListComp elt [⟨tg, iter, ifs, 0⟩] scope pos) (dLc fi q fc fe (own.map (·.2))) :=
  L2.PE.imp (pe_lc g.calm hN hi ok hg ht he hs) fun σ H Q ⟨as, δ, S, sr, er, w⟩ => lc_t hq sr er w
end
end
end DL
namespace DL
noncomputable section
open PySem PySem.Spec PyProof.Rows L2

/-! ### statements -/
def WS (M : Wd) (E : L2.St → XK) (D : Ends) (as : As) (H : Hp) (o : Out) : Prop := match o with
  | .nx δ' S' => ∀ as' H' σ', Ext as H as' H' → SR M as' H' S' → ER M as' H' σ' δ' → D.nx σ' H'
  | .rt d S' => ∀ as' H' v, Ext as H as' H' → SR M as' H' S' → DVR M as' H' v d → D.rt v H'
  | .rtT ds S' => ∀ as' H' v, Ext as H as' H' → SR M as' H' S' → (∃ a vs, v = .ref a ∧ RdT M.K as' H' a vs ∧ DVRs M as' H' vs ds) → D.rt v H'
  | .bk δ' S' => ∀ as' H' σ', Ext as H as' H' → SR M as' H' S' → ER M as' H' σ' δ' → D.bk σ' H'
  | .ct δ' S' => ∀ as' H' σ', Ext as H as' H' → SR M as' H' S' → ER M as' H' σ' δ' → D.ct σ' H'
  | .exc c p δ' S' => ∀ as' H' σ' cls dd, Ext as H as' H' → SR M as' H' S' → ER M as' H' σ' δ' → ExR M as' H' c p cls dd → E σ' cls dd H'
  | .bad => False
def tS (M : Wd) (E : L2.St → XK) (f : Sig → AH → Out) : TS := fun D σ H => ∃ as δ S, SR M as H S ∧ ER M as H σ δ ∧ WS M E D as H (f δ S)
abbrev DS (X : Cx) (E : L2.St → XK) (st : Stmt) (f : Sig → AH → Out) : Prop := PS X st (tS (wd X) E f)
abbrev DSs (X : Cx) (E : L2.St → XK) (st : List Stmt) (f : Sig → AH → Out) : Prop := PSs X st (tS (wd X) E f)
theorem _root_.L2.PS.imp {X : Cx} {e : Stmt} {t t' : TS} (h : PS X e t) (i : ∀ D σ H, t' D σ H → t D σ H) : PS X e t' := ⟨fun pins s σ H D I q => h.run pins s σ H D I (i D σ H q)⟩
theorem _root_.L2.PSs.imp {X : Cx} {e : List Stmt} {t t' : TS} (h : PSs X e t) (i : ∀ D σ H, t' D σ H → t D σ H) : PSs X e t' := ⟨fun pins s σ H D I q => h.run pins s σ H D I (i D σ H q)⟩
def _root_.DL.Res.out {α : Type} (r : Res α) (δ : Sig) (k : α → AH → Out) : Out := match r with
  | .ok a S => k a S
  | .exc c p S => .exc c p δ S
  | .bad => .bad
@[simp] theorem out_ok {α : Type} (a : α) (S : AH) (δ : Sig) (k : α → AH → Out) : (Res.ok a S).out δ k = k a S := rfl
@[simp] theorem out_exc {α : Type} (c : Str) (p : List (Str × PV)) (S : AH) (δ : Sig) (k : α → AH → Out) : (Res.exc c p S : Res α).out δ k = .exc c p δ S := rfl
@[simp] theorem out_bad {α : Type} (δ : Sig) (k : α → AH → Out) : (Res.bad : Res α).out δ k = .bad := rfl
section
variable {M : Wd} {E : L2.St → XK} {D : Ends} {as as' : As} {H H' : Hp} {σ : L2.St} {δ : Sig} {α β : Type} {R : As → Hp → β → α → Prop}
theorem WS.later {o : Out} (x : Ext as H as' H') (w : WS M E D as H o) : WS M E D as' H' o := by
  cases o with
  | nx δ S => exact fun as2 H2 σ e => w as2 H2 σ (x.trans e)
  | rt d S => exact fun as2 H2 σ e => w as2 H2 σ (x.trans e)
  | rtT d S => exact fun as2 H2 σ e => w as2 H2 σ (x.trans e)
  | bk δ S => exact fun as2 H2 σ e => w as2 H2 σ (x.trans e)
  | ct δ S => exact fun as2 H2 σ e => w as2 H2 σ (x.trans e)
  | exc c p δ S => exact fun as2 H2 σ cls dd e => w as2 H2 σ cls dd (x.trans e)
  | bad => exact w
theorem WS.bind {r : Res α} {k : α → AH → Out} (w : WS M E D as H (r.out δ k)) (er : ER M as H σ δ) :
    WR M (E σ) R as H r (fun b H1 => ∃ as1 S1 a, r = .ok a S1 ∧ Ext as H as1 H1 ∧ SR M as1 H1 S1 ∧ R as1 H1 b a ∧ WS M E D as1 H1 (k a S1)) := by
  cases r with
  | ok a S => exact fun as2 H2 b e s q => ⟨as2, S, a, rfl, e, s, q, WS.later e w⟩
  | exc c p S => exact fun as2 H2 cls dd e s q => w as2 H2 σ cls dd e s (er.mono e.w) q
  | bad => exact w
theorem WS.here {S : AH} (w : WS M E D as H (.nx δ S)) (s : SR M as H S) (r : ER M as H σ δ) : D.nx σ H := w as H σ (Ext.refl _ _) s r
theorem WS.ret {d : DV} {S : AH} {v : V} (w : WS M E D as H (.rt d S)) (s : SR M as H S) (r : DVR M as H v d) : D.rt v H := w as H v (Ext.refl _ _) s r
end
def dPass : Sig → AH → Out := fun δ S => .nx δ S
def dBreak : Sig → AH → Out := fun δ S => .bk δ S
def dCont : Sig → AH → Out := fun δ S => .ct δ S
def dNever : Sig → AH → Out := fun _ _ => .bad
def dSeq (f g : Sig → AH → Out) : Sig → AH → Out := fun δ S => match f δ S with
  | .nx δ' S' => g δ' S'
  | o => o
def dDrop (f : Sig → AH → Res DV) : Sig → AH → Out := fun δ S => (f δ S).out δ fun _ S => .nx δ S
def dRet (f : Sig → AH → Res DV) : Sig → AH → Out := fun δ S => (f δ S).out δ fun d S => .rt d S
/-- a tuple that is given back, with cells in it -/
def dRetT (fs : Sig → AH → Res (List DV)) : Sig → AH → Out := fun δ S => (fs δ S).out δ fun ds S => if ds.length ≤ 1000 then .rtT ds S else .bad
def dRetN : Sig → AH → Out := fun _ S => .rt (.p .non) S
def dSet (i : Nat) (f : Sig → AH → Res DV) : Sig → AH → Out := fun δ S => (f δ S).out δ fun d S => .nx (δ.set i (some d)) S
def dAsg (q : Pat) (f : Sig → AH → Res DV) : Sig → AH → Out := fun δ S => (f δ S).out δ fun d S => match d with
  | .p x => match q.set (.p x) δ with
    | some δ' => .nx δ' S
    | none => .bad
  | .c _ => .bad
def dIf (c : Sig → AH → Res Bool) (f g : Sig → AH → Out) : Sig → AH → Out := fun δ S => (c δ S).out δ fun b S => if b = true then f δ S else g δ S
section
variable {X : Cx} {E : L2.St → XK} {st : Stmt} {rest sts sts2 : List Stmt} {e : Expr} {pos : Pos} {f g : Sig → AH → Out} {fe : Sig → AH → Res DV} {fc : Sig → AH → Res Bool} {q : Pat}
theorem dss_nil : DSs X E [] dPass := pss_nil.imp fun D σ H ⟨as, δ, S, sr, er, w⟩ => w.here sr er
theorem dss_cons (h1 : DS X E st f) (h2 : DSs X E rest g) : DSs X E (st :: rest) (dSeq f g) := (pss_cons h1 h2).imp fun D σ H ⟨as, δ, S, sr, er, w⟩ => by
  refine ⟨as, δ, S, sr, er, ?_⟩
  unfold dSeq at w
  split at w
  · rename_i δ1 S1 eq
    rw [eq]
    exact fun as' H' σ' x s r => ⟨as', δ1, S1, s, r, WS.later x w⟩
  · rename_i n
    cases eq : f δ S with
    | nx δ1 S1 => exact absurd eq (n _ _)
    | rt d S1 => rw [eq] at w; exact w
    | rtT d S1 => rw [eq] at w; exact w
    | bk δ1 S1 => rw [eq] at w; exact w
    | ct δ1 S1 => rw [eq] at w; exact w
    | exc c p δ1 S1 => rw [eq] at w; exact w
    | bad => rw [eq] at w; exact w
theorem dss_one (h1 : DS X E st f) : DSs X E [st] f := pss_one h1
theorem ds_pass : DS X E (.Pass pos) dPass := ps_pass.imp fun D σ H ⟨as, δ, S, sr, er, w⟩ => w.here sr er
theorem ds_break : DS X E (.Break pos) dBreak := ps_break.imp fun D σ H ⟨as, δ, S, sr, er, w⟩ => w as H σ (Ext.refl _ _) sr er
theorem ds_cont : DS X E (.Continue pos) dCont := ps_continue.imp fun D σ H ⟨as, δ, S, sr, er, w⟩ => w as H σ (Ext.refl _ _) sr er
theorem ds_never : DS X E st dNever := ps_never.imp fun D σ H ⟨as, δ, S, sr, er, w⟩ => w.elim
theorem dss_never : DSs X E sts dNever := pss_never.imp fun D σ H ⟨as, δ, S, sr, er, w⟩ => w.elim
theorem ds_expr (he : DE X E e fe) (hs : swapsWith e none pos.line X.env = pure false := by rfl) : DS X E (.Expr e pos) (dDrop fe) := (ps_expr he hs).imp fun D σ H ⟨as, δ, S, sr, er, w⟩ =>
  ⟨as, δ, S, sr, er, (w.bind er).mono fun _ _ _ _ _ _ _ _ _ ⟨as1, S1, d1, _, x1, s1, r1, w1⟩ => w1.here s1 (er.mono x1.w)⟩
theorem ds_ret (he : DE X E e fe) : DS X E (.Return (some e) pos) (dRet fe) := (ps_ret he).imp fun D σ H ⟨as, δ, S, sr, er, w⟩ =>
  ⟨as, δ, S, sr, er, (w.bind er).mono fun _ _ _ _ _ _ _ _ _ ⟨as1, S1, d1, _, x1, s1, r1, w1⟩ => w1.ret s1 r1⟩
theorem ds_retT {es : List Expr} {k} {pos' : Pos} {fs : Sig → AH → Res (List DV)} (ha : DA X E es fs) : DS X E (.Return (some (.Tuple es k pos')) pos) (dRetT fs) := (ps_ret (pe_tup ha)).imp fun D σ H ⟨as, δ, S, sr, er, w⟩ =>
  ⟨as, δ, S, sr, er, (w.bind er).mono fun _ _ _ _ vs _ _ _ _ ⟨as1, S1, ds, _, x1, s1, r1, w1⟩ => by
    split at w1
    · rename_i z
      have z2 : vs.length ≤ sizeLine := by rw [Paired.length r1]; exact le1000 z
      exact ⟨z2, fun p n => w1 as1 _ _ (ext_new s1 n) (s1.new n) ⟨p, vs, rfl, ⟨z2, .inl ⟨upd_same, s1.fresh n⟩⟩, DVRs.mono (ext_new s1 n).w r1⟩⟩
    · exact w1.elim⟩
theorem ds_retN : DS X E (.Return none pos) dRetN := ps_retN.imp fun D σ H ⟨as, δ, S, sr, er, w⟩ => w.ret sr .non
theorem ds_set {i : Nat} {x : Str} {pos' : Pos} (hN : X.N.Nodup) (hi : X.N[i]? = some x) (hx : Loc X.env.scope x) (he : DE X E e fe) (hs : swapsWith e (some (.Name x pos')) pos.line X.env = pure false := by rfl) (hf : X.fn x = true ∨ X.env.scope.names.lookup x = some .local := by first | exact .inl rfl | exact .inr rfl | assumption) :
    DS X E (.Assign [.Name x pos'] e pos) (dSet i fe) := (ps_set hN hi hx he hs hf).imp fun D σ H ⟨as, δ, S, sr, er, w⟩ =>
  ⟨as, δ, S, sr, er, (w.bind er).mono fun _ _ _ _ _ _ _ _ _ ⟨as1, S1, d1, _, x1, s1, r1, w1⟩ => w1.here s1 ((er.mono x1.w).set r1 i)⟩
theorem ds_asg {tg : Expr} (he : DE X E e fe) (hg : DG X tg q) (hs : swapsWithSole [tg] e pos.line X.env = pure false := by rfl) (hw : swappedStores [tg] e X.env = pure none := by rfl)
    (h1 : (assignEach [tg] X.env).map (·.2) = [assign tg X.env] := by rfl) : DS X E (.Assign [tg] e pos) (dAsg q fe) := (ps_asg he hg hs hw h1).imp fun D σ H ⟨as, δ, S, sr, er, w⟩ =>
  ⟨as, δ, S, sr, er, (w.bind er).mono fun _ _ _ _ _ _ _ _ _ ⟨as1, S1, d1, _, x1, s1, r1, w1⟩ => by
    split at w1
    · split at w1
      · rename_i δ' eq
        exact tPat_ok (M := wd X) q (er.mono x1.w) r1 eq fun σ' er' _ => w1.here s1 er'
      · exact w1.elim
    · exact w1.elim⟩
theorem ds_if {c : Expr} (hc : DT X E c fc) (ha : DSs X E sts f) (hb : DSs X E sts2 g) : DS X E (.If c sts sts2 pos) (dIf fc f g) := (ps_if hc ha hb).imp fun D σ H ⟨as, δ, S, sr, er, w⟩ =>
  ⟨as, δ, S, sr, er, (w.bind er).mono fun _ _ _ _ k _ _ _ _ ⟨as1, S1, d1, _, x1, s1, r1, w1⟩ => by
    cases r1
    cases k with
    | true => exact ⟨as1, δ, S1, s1, er.mono x1.w, w1⟩
    | false => exact ⟨as1, δ, S1, s1, er.mono x1.w, w1⟩⟩
end

/-! ### name = [..] -/
def dSetF (i : Nat) (f : Sig → AH → Res (List PV)) : Sig → AH → Out := dSet i (dVal f)
def dSetC (i : Nat) (f : Sig → AH → Res (List PV)) : Sig → AH → Out := dSet i (dCell f)
section
variable {X : Cx} {E : L2.St → XK} {elt tg iter : Expr} {ifs : List Expr} {scope : Scope} {own : List (Str × Nat)} {pos spos py : Pos} {fi : Sig → AH → Res Its'} {q : Pat} {fc : Sig → AH → Res Bool} {fe : Sig → AH → Res DV} {i : Nat} {y : Str}
theorem ds_setLcV (g : Gd X E) (hN : X.N.Nodup) (hy : X.N[i]? = some y) (hyl : X.env.scope.names.lookup y = some .local)
    (hsw : swapsWith (.ListComp elt [⟨tg, iter, ifs, 0⟩] scope pos) (some (.Name y py)) spos.line X.env = pure true) (hi : DI X E tg iter fi) (ok : BlkOk X.N X.env.scope scope own)
    (hg : ∀ (s : Shared) (H : Hp) (C : Addr) (cl : List (Str × Addr)) (fp : List Addr), DG (X.blk s H scope (compEnvC scope cl C X.env) fp) tg q) (ht : ∀ (s : Shared) (H : Hp) (C : Addr) (cl : List (Str × Addr)) (fp : List Addr), DTs (X.blk s H scope (compEnvC scope cl C X.env) fp) EN ifs fc)
    (he : ∀ (s : Shared) (H : Hp) (C : Addr) (cl : List (Str × Addr)) (fp : List Addr), DE (X.blk s H scope (compEnvC scope cl C X.env) fp) EN elt fe) (hq : ∀ i ∈ q.slots, i ∈ own.map (·.2)) (hs : ∀ x, foldedSetIterable iter X.env x = pure x := by intro _; rfl) :
    DS X E (.Assign [.Name y py] (.ListComp elt [⟨tg, iter, ifs, 0⟩] scope pos) spos) (dSetF i (dLc fi q fc fe (own.map (·.2)))) :=
  (ps_setLc g.calm hN hy hyl hsw hi ok hg ht he hs).imp fun D σ H ⟨as, δ, S, sr, er, w⟩ => lc_t hq sr er (WF.val ((w.bind er).mono fun _ _ _ _ v _ _ _ _ ⟨as1, S1, d1, _, x1, s1, r1, w1⟩ => w1.here s1 ((er.mono x1.w).set r1 i)))
theorem ds_setLcC (g : Gd X E) (hN : X.N.Nodup) (hy : X.N[i]? = some y) (hyl : X.env.scope.names.lookup y = some .local)
    (hsw : swapsWith (.ListComp elt [⟨tg, iter, ifs, 0⟩] scope pos) (some (.Name y py)) spos.line X.env = pure true) (hi : DI X E tg iter fi) (ok : BlkOk X.N X.env.scope scope own)
    (hg : ∀ (s : Shared) (H : Hp) (C : Addr) (cl : List (Str × Addr)) (fp : List Addr), DG (X.blk s H scope (compEnvC scope cl C X.env) fp) tg q) (ht : ∀ (s : Shared) (H : Hp) (C : Addr) (cl : List (Str × Addr)) (fp : List Addr), DTs (X.blk s H scope (compEnvC scope cl C X.env) fp) EN ifs fc)
    (he : ∀ (s : Shared) (H : Hp) (C : Addr) (cl : List (Str × Addr)) (fp : List Addr), DE (X.blk s H scope (compEnvC scope cl C X.env) fp) EN elt fe) (hq : ∀ i ∈ q.slots, i ∈ own.map (·.2)) (hs : ∀ x, foldedSetIterable iter X.env x = pure x := by intro _; rfl) :
    DS X E (.Assign [.Name y py] (.ListComp elt [⟨tg, iter, ifs, 0⟩] scope pos) spos) (dSetC i (dLc fi q fc fe (own.map (·.2)))) :=
  (ps_setLc g.calm hN hy hyl hsw hi ok hg ht he hs).imp fun D σ H ⟨as, δ, S, sr, er, w⟩ => lc_t hq sr er (WF.cell ((w.bind er).mono fun _ _ _ _ v _ _ _ _ ⟨as1, S1, d1, _, x1, s1, r1, w1⟩ => w1.here s1 ((er.mono x1.w).set r1 i)))
end

/-! ### a, b = x, y -/
def dPar (i j : Nat) (fs : Sig → AH → Res (List DV)) : Sig → AH → Out := fun δ S => (fs δ S).out δ fun ds S => match ds with
  | [d, e] => .nx ((δ.set i (some d)).set j (some e)) S
  | _ => .bad
def dPar3 (i j l : Nat) (fs : Sig → AH → Res (List DV)) : Sig → AH → Out := fun δ S => (fs δ S).out δ fun ds S => match ds with
  | [d, e, f] => .nx (((δ.set i (some d)).set j (some e)).set l (some f)) S
  | _ => .bad
section
variable {X : Cx} {E : L2.St → XK} {a b c : Expr} {px py pz pt pos : Pos} {kt k2 : Nat} {pt2 : Pos} {i j l : Nat} {x y z : Str} {fs : Sig → AH → Res (List DV)}
theorem ds_par (hc : X.calm = true) (hN : X.N.Nodup) (hi : X.N[i]? = some x) (hj : X.N[j]? = some y) (hij : i ≠ j)
    (hx : X.env.scope.names.lookup x = some .local) (hy : X.env.scope.names.lookup y = some .local) (ha : DA X E [a, b] fs)
    (hw : swappedStores [.Tuple [.Name x px, .Name y py] kt pt] (.Tuple [a, b] k2 pt2) X.env = pure (some [x, y]))
    (hs : swapsWithSole [.Tuple [.Name x px, .Name y py] kt pt] (.Tuple [a, b] k2 pt2) pos.line X.env = pure false := by rfl) :
    DS X E (.Assign [.Tuple [.Name x px, .Name y py] kt pt] (.Tuple [a, b] k2 pt2) pos) (dPar i j fs) := (ps_par hc hN hi hj hij hx hy ha hw hs).imp fun D σ H ⟨as, δ, S, sr, er, w⟩ =>
  ⟨as, δ, S, sr, er, (w.bind er).mono fun _ _ _ _ _ _ _ _ _ ⟨as1, S1, d1, _, x1, s1, r1, w1⟩ => by
    split at w1
    · obtain ⟨v, v2, rfl, r, r'⟩ := DVRs.two r1
      exact ⟨_, _, rfl, w1.here s1 (((er.mono x1.w).set r i).set r' j)⟩
    · exact w1.elim⟩
end

/-! ### stores -/
/-- o[i] = v -/
def setIx (o i v : DV) (S : AH) : Option AH := match o, i, v with
  | .c n, .p (.int k), .p x => match S[n]? with
    | some (.lst xs) => (ixN xs.length k).map fun j => S.set n (.lst (xs.set j x))
    | _ => none
  | .c n, .p (.int k), .c m => match S[n]? with
    | some (.nst ks) => (ixN ks.length k).map fun j => S.set n (.nst (ks.set j m))
    | _ => none
  | _, _, _ => none
def rSetD (M : Wd) : V → V → V → Hp → (Hp → Prop) → Prop := fun o i v H Q => ∃ as S a b c, SR M as H S ∧ DVR M as H o a ∧ DVR M as H i b ∧ DVR M as H v c ∧ ∃ S', setIx a b c S = some S' ∧ ∀ as' H', Ext as H as' H' → SR M as' H' S' → Q H'
theorem ow_setIx {X : Cx} : PSet X (rSetD (wd X)) := by
  intro pins s σ H o i v ov iv u Q I ro ri rv h
  obtain ⟨as, S, a, b, c, sr, r1, r2, r3, S', e, q⟩ := h
  unfold setIx at e
  split at e
  · obtain ⟨ad, ea, rfl⟩ := r1
    cases r2
    split at e
    · rename_i xs e2
      simp only [Option.map_eq_some_iff] at e
      obtain ⟨j, ej, rfl⟩ := e
      obtain ⟨b2, vs, eb, z, hb, t⟩ := sr.at e2
      rw [ea] at eb; cases eb
      rw [← t.length] at ej
      exact set_list pins s σ H _ _ v ov iv u Q I ro ri rv ⟨_, _, _, j, rfl, rfl, hb, ej, q _ _ (ext_write sr ea) (sr.write ea (by rw [List.length_set]; exact z) (t.set r3 j))⟩
    · cases e
  · obtain ⟨ad, ea, rfl⟩ := r1
    cases r2
    split at e
    · rename_i ks e2
      simp only [Option.map_eq_some_iff] at e
      obtain ⟨j, ej, rfl⟩ := e
      obtain ⟨b2, vs, eb, z, hb, t⟩ := sr.atN e2
      rw [ea] at eb; cases eb
      rw [← t.length] at ej
      exact set_list pins s σ H _ _ v ov iv u Q I ro ri rv ⟨_, _, _, j, rfl, rfl, hb, ej, q _ _ (ext_write sr ea) (sr.writeNest ea (by rw [List.length_set]; exact z) (t.set r3 j))⟩
    · cases e
  · cases e
def dSub (fe fo fi : Sig → AH → Res DV) : Sig → AH → Out := fun δ S => (fe δ S).out δ fun v S => (fo δ S).out δ fun o S => (fi δ S).out δ fun i S => match setIx o i v S with
  | some S' => .nx δ S'
  | none => .bad
section
variable {X : Cx} {E : L2.St → XK} {o i e : Expr} {pos tpos : Pos} {fe fo fi : Sig → AH → Res DV}
theorem ds_sub (he : DE X E e fe) (ho : DE X E o fo) (hi : DE X E i fi)
    (hs : swapsWithSole [.Subscript o i tpos] e pos.line X.env = pure false := by rfl) (hw : swappedStores [.Subscript o i tpos] e X.env = pure none := by rfl)
    (h1 : (assignEach [.Subscript o i tpos] X.env).map (·.2) = [assign (.Subscript o i tpos) X.env] := by rfl)
    (ha : ∀ v, assign (.Subscript o i tpos) X.env v = (do
      let ov ← holding [v] (eval o X.env)
      let iv ← holding [v, ov] (eval i X.env)
      standAt tpos
      holding [v, ov, iv] (setItem ov iv v)
      release [v, ov, iv] []) := by intro _; rfl) : DS X E (.Assign [.Subscript o i tpos] e pos) (dSub fe fo fi) :=
  (ps_asg he (pg_sub ho hi ow_setIx ha) hs hw h1).imp fun D σ H ⟨as, δ, S, sr, er, w⟩ =>
  ⟨as, δ, S, sr, er, (w.bind er).mono fun _ _ _ _ _ _ _ _ _ ⟨as1, S1, d1, _, x1, s1, r1, w1⟩ => ⟨as1, δ, S1, s1, er.mono x1.w, (w1.bind (er.mono x1.w)).mono fun _ _ _ _ _ _ _ _ _ ⟨as2, S2, d2, _, x2, s2, r2, w2⟩ =>
    ⟨as2, δ, S2, s2, (er.mono x1.w).mono x2.w, (w2.bind ((er.mono x1.w).mono x2.w)).mono fun _ _ _ _ _ _ _ _ _ ⟨as3, S3, d3, _, x3, s3, r3, w3⟩ => by
      split at w3
      · rename_i S' eq
        exact ⟨as3, S3, d2, d3, d1, s3, r2.mono x3.w, r3, (r1.mono x2.w).mono x3.w, S', eq, fun as' H' x s => w3 as' H' σ x s ((((er.mono x1.w).mono x2.w).mono x3.w).mono x.w)⟩
      · exact w3.elim⟩⟩⟩
end

/-! ### name op= e -/
def dAug (i : Nat) (o : Op2) (fe : Sig → AH → Res DV) : Sig → AH → Out := fun δ S => match δ[i]? with
  | some (some a) => (fe δ S).out δ fun b S => (lift (o a b S)).out δ fun d S => .nx (δ.set i (some d)) S
  | _ => .bad
def rIpD (M : Wd) (o : Op2) : TIp := fun x y H Q => ∃ as S d1 d2, SR M as H S ∧ DVR M as H x d1 ∧ DVR M as H y d2 ∧ WO M as H (o d1 d2 S) Q
def intO2 (f : Int → Int → Int) : Op2 := fun a b S => match a, b with
  | .p (.int i), .p (.int j) => some (.p (.int (f i j)), S)
  | _, _ => none
theorem ow_ip {X : Cx} {op : Operator} {f : Int → Int → Int} (h0 : PIp X op (ipI f)) : PIp X op (rIpD (wd X) (intO2 f)) := by
  intro pins s σ H x y v u Q I rx ry h
  obtain ⟨as, S, d1, d2, sr, r1, r2, w⟩ := h
  unfold intO2 at w
  split at w
  · cases r1; cases r2
    exact h0 pins s σ H _ _ v u Q I rx ry ⟨_, _, rfl, rfl, w.here sr (.int _)⟩
  · exact w.elim
theorem ow_iadd {X : Cx} : PIp X .Add (rIpD (wd X) (intO2 fun i j => i + j)) := ow_ip ip_add
theorem ow_isub {X : Cx} : PIp X .Sub (rIpD (wd X) (intO2 fun i j => i - j)) := ow_ip ip_sub
section
variable {X : Cx} {E : L2.St → XK} {e : Expr} {pos pos' : Pos} {fe : Sig → AH → Res DV} {i : Nat} {x : Str} {op : Operator} {o : Op2}
theorem ds_aug (hN : X.N.Nodup) (hi : X.N[i]? = some x) (hx : Loc X.env.scope x) (he : DE X E e fe) (ho : PIp X op (rIpD (wd X) o)) (hf : X.fn x = true ∨ X.env.scope.names.lookup x = some .local := by first | exact .inl rfl | exact .inr rfl | assumption) :
    DS X E (.AugAssign (.Name x pos') op e pos) (dAug i o fe) := (ps_aug hN hi hx he ho hf).imp fun D σ H ⟨as, δ, S, sr, er, w⟩ => by
  unfold dAug at w
  split at w
  · rename_i a ea
    obtain ⟨v, q, r⟩ := er.get i a ea
    refine ⟨v, q, as, δ, S, sr, er, (w.bind er).mono fun _ _ _ _ _ _ _ _ _ ⟨as1, S1, d1, _, x1, s1, r1, w1⟩ => ?_⟩
    refine ⟨as1, S1, a, d1, s1, r.mono x1.w, r1, ?_⟩
    refine WR.wo (E := E σ) ((w1.bind (er.mono x1.w)).mono fun _ _ _ _ _ _ _ _ _ ⟨as2, S2, d2, _, x2, s2, r2, w2⟩ => ?_)
    exact w2.here s2 (((er.mono x1.w).mono x2.w).set r2 i)
  · exact w.elim
end

/-! ### o[i] op= e, o a list -/
def rGetD (M : Wd) : V → V → Hp → VK → Prop := fun x y H Q => ∃ as S d1 d2 ps i p, SR M as H S ∧ DVR M as H x d1 ∧ DVR M as H y d2 ∧ litems d1 S = some ps ∧ d2 = .p (.int i) ∧ atI ps i = some p ∧ ∀ v, PR M as H v p → Q v H
theorem ow_get {X : Cx} : PGet X (rGetD (wd X)) := by
  intro pins s σ H x y v u Q I rx ry h
  obtain ⟨as, S, d1, d2, ps, i, p, sr, r1, r2, e1, rfl, e2, q⟩ := h
  cases r2
  obtain ⟨a, vs, rfl, z, hq, t⟩ := litems_sq sr r1 e1
  obtain ⟨zv, e3, r3⟩ := atI_prs t e2
  cases rx
  obtain ⟨t', rfl⟩ := ry
  obtain ⟨its, r, pl, hz⟩ := I.list hq
  obtain ⟨j, h1, h2, h3, h4, h5⟩ := atI_get e3
  obtain ⟨w, ew, rw'⟩ := r.get h2
  have hl := r.length
  have hn := line63
  have fin : EP X pins σ Q w s := ⟨zv, H, I, rw', q zv r3⟩
  by_cases h0 : 0 ≤ i
  · have hj : i.toNat = j := by
      rw [seqIndex_of h0 h5] at h1
      exact Option.some.inj h1
    exact wpAny_getItem_list pl.isList h0 (by omega) (by rw [hj]; simpa using ew) fin
  · have hj : (i + (its.toArray.size : Int)).toNat = j := by
      rw [seqIndex_neg (by omega) h4] at h1
      rw [List.size_toArray, ← hl]
      exact Option.some.inj h1
    exact wpAny_getItem_list_neg pl.isList (by omega) (by rw [List.size_toArray] <;> omega) (by omega) (by rw [hj]; simpa using ew) fin
def dAugS (o : Op2) (fo fi fe : Sig → AH → Res DV) : Sig → AH → Out := fun δ S => (fo δ S).out δ fun a S => (fi δ S).out δ fun b S => match b with
  | .p (.int i) => match (litems a S).bind fun ps => atI ps i with
    | some x => (fe δ S).out δ fun y S => (lift (o (.p x) y S)).out δ fun v S => match setIx a b v S with
      | some S' => .nx δ S'
      | none => .bad
    | none => .bad
  | _ => .bad
section
variable {X : Cx} {E : L2.St → XK} {ob i e : Expr} {pos tpos : Pos} {fe fo fi : Sig → AH → Res DV} {op : Operator} {o : Op2}
theorem ds_augS (ho : DE X E ob fo) (hi : DE X E i fi) (he : DE X E e fe) (hp : PIp X op (rIpD (wd X) o))
    (ha : ∀ ov iv new, augStore i ov iv new = (do holding [new, ov, iv] (setItem ov iv new); release [new, ov, iv] []; pure .next) := by intros; rfl) : DS X E (.AugAssign (.Subscript ob i tpos) op e pos) (dAugS o fo fi fe) :=
  (ps_augS ho hi ow_get he hp ow_setIx ha).imp fun D σ H ⟨as, δ, S, sr, er, w⟩ =>
  ⟨as, δ, S, sr, er, (w.bind er).mono fun _ _ _ _ _ _ _ _ _ ⟨as1, S1, d1, _, x1, s1, r1, w1⟩ => ⟨as1, δ, S1, s1, er.mono x1.w, (w1.bind (er.mono x1.w)).mono fun _ _ _ _ _ _ _ _ _ ⟨as2, S2, d2, _, x2, s2, r2, w2⟩ => by
    have er2 := (er.mono x1.w).mono x2.w
    split at w2
    · rename_i k
      split at w2
      · rename_i x ex
        simp only [Option.bind_eq_some_iff] at ex
        obtain ⟨ps, ep, ea⟩ := ex
        refine ⟨as2, S2, d1, _, ps, _, x, s2, r1.mono x2.w, r2, ep, rfl, ea, fun v rv => ?_⟩
        refine ⟨as2, δ, S2, s2, er2, (w2.bind er2).mono fun _ _ _ _ _ _ _ _ _ ⟨as3, S3, d3, _, x3, s3, r3, w3⟩ => ?_⟩
        refine ⟨as3, S3, .p x, d3, s3, rv.mono x3.w, r3, ?_⟩
        refine WR.wo (E := E σ) ((w3.bind (er2.mono x3.w)).mono fun _ _ _ _ _ _ _ _ _ ⟨as4, S4, d4, _, x4, s4, r4, w4⟩ => ?_)
        split at w4
        · rename_i S' eq
          exact ⟨as4, S4, d1, _, d4, s4, ((r1.mono x2.w).mono x3.w).mono x4.w, (r2.mono x3.w).mono x4.w, r4, S', eq, fun as' H' x s => w4 as' H' σ x s (((er2.mono x3.w).mono x4.w).mono x.w)⟩
        · exact w4.elim
      · exact w2.elim
    · exact w2.elim⟩⟩
end
end
end DL
namespace DL
noncomputable section
open PySem PySem.Spec PyProof.Rows L2

/-! ### for -/
open Classical in
noncomputable def forGo (ck : AH → Prop) (q : Pat) (fb : Sig → AH → Out) : List DV → Sig → AH → Out
  | [], δ, S => if ck S then .nx δ S else .bad
  | x :: xs, δ, S => if ck S then match q.set x δ with
    | none => .bad
    | some δ1 => match fb δ1 S with
      | .nx δ2 S2 => forGo ck q fb xs δ2 S2
      | .ct δ2 S2 => forGo ck q fb xs δ2 S2
      | .bk δ2 S2 => .nx δ2 S2
      | o => o
    else .bad
noncomputable def dFor (fi : Sig → AH → Res Its') (q : Pat) (fb : Sig → AH → Out) : Sig → AH → Out := fun δ S => (fi δ S).out δ fun x S1 => forGo x.2 q fb x.1 δ S1
section
variable {X : Cx} {E : L2.St → XK} {tg iter : Expr} {body : List Stmt} {pos : Pos} {fi : Sig → AH → Res Its'} {q : Pat} {fb : Sig → AH → Out}
theorem ds_for (g : Gd X E) (hi : DI X E tg iter fi) (hg : DG X tg q) (hb : DSs X E body fb) (hs : ∀ x, foldedSetIterable iter X.env x = pure x := by intro _; rfl) : DS X E (.For tg iter body [] pos) (dFor fi q fb) :=
  (ps_for g.po g.calm hi hg hb hs).imp fun D σ H ⟨as, δ, S, sr, er, w⟩ =>
  ⟨as, δ, S, sr, er, (w.bind er).mono fun _ _ _ H1 J _ _ _ _ ⟨as1, S1, x, _, e1, s1, y1, w1⟩ => by
    obtain ⟨xs, ck⟩ := x
    dsimp only at y1 w1
    refine ⟨fun i m σ H => m = xs.length - i ∧ i ≤ xs.length ∧ ∃ as' δ' S', Ext as1 H1 as' H ∧ SR (wd X) as' H S' ∧ ER (wd X) as' H σ δ' ∧ WS (wd X) E D as' H (forGo ck q fb (xs.drop i) δ' S'), ⟨xs.length, rfl, Nat.zero_le _, as1, δ, S1, Ext.refl _ _, s1, er.mono e1.w, w1⟩, ?_⟩
    rintro i m σ H ⟨rfl, hi, as2, δ2, S2, e2, s2, er2, w2⟩
    by_cases hlt : i < xs.length
    · have hx : xs[i]? = some xs[i] := List.getElem?_eq_getElem hlt
      have hd : xs.drop i = xs[i] :: xs.drop (i + 1) := List.drop_eq_getElem_cons hlt
      rw [hd] at w2
      unfold forGo at w2
      have hck : ck S2 := by
        refine Classical.byContradiction fun n => ?_
        rw [if_neg n] at w2
        exact w2
      rw [if_pos hck] at w2
      refine .inr ⟨y1.go _ _ _ e2.w s2 hck i hlt, fun σ H => i + 1 ≤ xs.length ∧ ∃ as' δ' S', Ext as1 H1 as' H ∧ SR (wd X) as' H S' ∧ ER (wd X) as' H σ δ' ∧ WS (wd X) E D as' H (forGo ck q fb (xs.drop (i + 1)) δ' S'), fun σ' H' n => ⟨xs.length - (i + 1), by omega, rfl, n.1, n.2⟩, fun v H' yv => ?_⟩
      obtain ⟨e3, s3, r3⟩ := y1.yld _ _ _ e2.w s2 hck i _ v H' hx yv
      cases eq : q.set xs[i] δ2 with
      | none => rw [eq] at w2; exact w2.elim
      | some δ3 =>
        rw [eq] at w2
        dsimp only at w2
        refine tPat_ok (M := wd X) q (er2.mono e3.w) r3 eq fun σ3 er3 _ => ⟨as2, δ3, S2, s3, er3, ?_⟩
        cases eb : fb δ3 S2 with
        | nx δ4 S4 =>
          rw [eb] at w2
          exact fun as' H' σ' x s r => ⟨hlt, as', δ4, S4, (e2.trans e3).trans x, s, r, WS.later (e3.trans x) w2⟩
        | ct δ4 S4 =>
          rw [eb] at w2
          exact fun as' H' σ' x s r => ⟨hlt, as', δ4, S4, (e2.trans e3).trans x, s, r, WS.later (e3.trans x) w2⟩
        | bk δ4 S4 =>
          rw [eb] at w2
          exact fun as' H' σ' x s r => w2 as' H' σ' (e3.trans x) s r
        | rt d S4 =>
          rw [eb] at w2
          exact fun as' H' v x s r => w2 as' H' v (e3.trans x) s r
        | rtT d S4 =>
          rw [eb] at w2
          exact fun as' H' v x s r => w2 as' H' v (e3.trans x) s r
        | exc c p δ4 S4 =>
          rw [eb] at w2
          exact fun as' H' σ' cls dd x s r => w2 as' H' σ' cls dd (e3.trans x) s r
        | bad => rw [eb] at w2; exact w2.elim
    · have hi' : i = xs.length := by omega
      subst hi'
      rw [List.drop_length] at w2
      unfold forGo at w2
      have hck : ck S2 := by
        refine Classical.byContradiction fun n => ?_
        rw [if_neg n] at w2
        exact w2
      rw [if_pos hck] at w2
      exact .inl ⟨y1.stop _ _ _ e2.w s2 hck, w2.here s2 er2⟩⟩
end

/-! ### while -/
def whN (fc : Sig → AH → Res Bool) (fb : Sig → AH → Out) : Nat → Sig → AH → Out
  | 0, _, _ => .bad
  | n + 1, δ, S => (fc δ S).out δ fun b S1 => if b = true then match fb δ S1 with
      | .nx δ2 S2 => whN fc fb n δ2 S2
      | .ct δ2 S2 => whN fc fb n δ2 S2
      | .bk δ2 S2 => .nx δ2 S2
      | o => o
    else .nx δ S1
theorem whN_up {fc : Sig → AH → Res Bool} {fb : Sig → AH → Out} : ∀ (n : Nat) (δ : Sig) (S : AH), whN fc fb n δ S ≠ .bad → whN fc fb (n + 1) δ S = whN fc fb n δ S
  | 0, δ, S, h => absurd rfl h
  | n + 1, δ, S, h => by
    unfold whN at h ⊢
    cases e : fc δ S with
    | bad => rw [e] at h; exact absurd rfl h
    | exc c p S1 => rfl
    | ok b S1 =>
      rw [e] at h
      simp only [out_ok] at h ⊢
      cases b with
      | false => rfl
      | true =>
        simp only [if_true] at h ⊢
        cases e2 : fb δ S1 with
        | nx δ2 S2 => rw [e2] at h; exact whN_up n δ2 S2 h
        | ct δ2 S2 => rw [e2] at h; exact whN_up n δ2 S2 h
        | bk δ2 S2 => rfl
        | rt d S2 => rfl
        | rtT d S2 => rfl
        | exc c p δ2 S2 => rfl
        | bad => rfl
theorem whN_le {fc : Sig → AH → Res Bool} {fb : Sig → AH → Out} {δ : Sig} {S : AH} {n : Nat} (h : whN fc fb n δ S ≠ .bad) : ∀ m, n ≤ m → whN fc fb m δ S = whN fc fb n δ S := by
  intro m hm
  induction m with
  | zero => have : n = 0 := by omega
            subst this; rfl
  | succ m ih =>
    by_cases e : n ≤ m
    · have q := ih e
      rw [whN_up m δ S (by rw [q]; exact h), q]
    · have : n = m + 1 := by omega
      rw [this]
open Classical in
noncomputable def dWhile (fc : Sig → AH → Res Bool) (fb : Sig → AH → Out) : Sig → AH → Out := fun δ S => if h : ∃ n, whN fc fb n δ S ≠ .bad then whN fc fb (choose h) δ S else .bad
theorem dWhile_at {fc : Sig → AH → Res Bool} {fb : Sig → AH → Out} {δ : Sig} {S : AH} {n : Nat} (h : whN fc fb n δ S ≠ .bad) : dWhile fc fb δ S = whN fc fb n δ S := by
  have hx : ∃ n, whN fc fb n δ S ≠ .bad := ⟨n, h⟩
  unfold dWhile
  rw [dif_pos hx]
  have hc := Classical.choose_spec hx
  by_cases e : n ≤ Classical.choose hx
  · exact whN_le h _ e
  · exact (whN_le hc _ (by omega)).symm
theorem dWhile_bad {fc : Sig → AH → Res Bool} {fb : Sig → AH → Out} {δ : Sig} {S : AH} (h : ∀ n, whN fc fb n δ S = .bad) : dWhile fc fb δ S = .bad := by
  unfold dWhile
  rw [dif_neg fun ⟨n, q⟩ => q (h n)]
/-- one turn -/
theorem dWhile_eq (fc : Sig → AH → Res Bool) (fb : Sig → AH → Out) (δ : Sig) (S : AH) : dWhile fc fb δ S = (fc δ S).out δ fun b S1 => if b = true then match fb δ S1 with
      | .nx δ2 S2 => dWhile fc fb δ2 S2
      | .ct δ2 S2 => dWhile fc fb δ2 S2
      | .bk δ2 S2 => .nx δ2 S2
      | o => o
    else .nx δ S1 := by
  have step : ∀ n, whN fc fb (n + 1) δ S = (fc δ S).out δ fun b S1 => if b = true then match fb δ S1 with
      | .nx δ2 S2 => whN fc fb n δ2 S2
      | .ct δ2 S2 => whN fc fb n δ2 S2
      | .bk δ2 S2 => .nx δ2 S2
      | o => o
    else .nx δ S1 := fun n => rfl
  have deep : ∀ (δ2 : Sig) (S2 : AH), (∀ n, whN fc fb (n + 1) δ S = whN fc fb n δ2 S2) → dWhile fc fb δ S = dWhile fc fb δ2 S2 := by
    intro δ2 S2 h
    by_cases hx : ∃ n, whN fc fb n δ2 S2 ≠ .bad
    · obtain ⟨n, hn⟩ := hx
      rw [dWhile_at hn, dWhile_at (n := n + 1) (by rw [h]; exact hn), h]
    · have h2 : ∀ n, whN fc fb n δ2 S2 = .bad := fun n => Classical.byContradiction fun q => hx ⟨n, q⟩
      rw [dWhile_bad h2]
      refine dWhile_bad fun n => ?_
      cases n with
      | zero => rfl
      | succ n => rw [h, h2]
  have flat : ∀ o : Out, (∀ n, whN fc fb (n + 1) δ S = o) → dWhile fc fb δ S = o := by
    intro o h
    by_cases e : o = .bad
    · subst e
      refine dWhile_bad fun n => ?_
      cases n with
      | zero => rfl
      | succ n => exact h n
    · rw [dWhile_at (n := 1) (by rw [h 0]; exact e), h 0]
  cases e : fc δ S with
  | bad => exact flat _ fun n => by rw [step, e]; rfl
  | exc c p S1 => exact flat _ fun n => by rw [step, e]; rfl
  | ok b S1 =>
    cases b with
    | false => exact flat _ fun n => by rw [step, e]; rfl
    | true =>
      cases e2 : fb δ S1 with
      | nx δ2 S2 =>
        simp only [out_ok, if_true, e2]
        exact deep _ _ fun n => by rw [step, e]; simp only [out_ok, if_true, e2]
      | ct δ2 S2 =>
        simp only [out_ok, if_true, e2]
        exact deep _ _ fun n => by rw [step, e]; simp only [out_ok, if_true, e2]
      | bk δ2 S2 => exact flat _ fun n => by rw [step, e]; simp only [out_ok, if_true, e2]
      | rt d S2 => exact flat _ fun n => by rw [step, e]; simp only [out_ok, if_true, e2]
      | rtT d S2 => exact flat _ fun n => by rw [step, e]; simp only [out_ok, if_true, e2]
      | exc c p δ2 S2 => exact flat _ fun n => by rw [step, e]; simp only [out_ok, if_true, e2]
      | bad => exact flat _ fun n => by rw [step, e]; simp only [out_ok, if_true, e2]
section
variable {X : Cx} {E : L2.St → XK} {c : Expr} {body : List Stmt} {pos : Pos} {fc : Sig → AH → Res Bool} {fb : Sig → AH → Out}
theorem ds_while (g : Gd X E) (hc : DT X E c fc) (hb : DSs X E body fb) : DS X E (.While c body [] pos) (dWhile fc fb) :=
  (ps_while g.po hc hb).imp fun D σ H ⟨as, δ, S, sr, er, w⟩ => by
  have hb : ∃ n, whN fc fb n δ S ≠ .bad := by
    refine Classical.byContradiction fun q => ?_
    rw [dWhile_bad fun n => Classical.byContradiction fun z => q ⟨n, z⟩] at w
    exact w
  obtain ⟨n, hn⟩ := hb
  rw [dWhile_at hn] at w
  refine ⟨fun m σ H => ∃ as δ S, SR (wd X) as H S ∧ ER (wd X) as H σ δ ∧ WS (wd X) E D as H (whN fc fb m δ S), ⟨n, as, δ, S, sr, er, w⟩, ?_⟩
  rintro m σ H ⟨as, δ, S, sr, er, w⟩
  cases m with
  | zero => exact w.elim
  | succ m =>
    unfold whN at w
    refine ⟨as, δ, S, sr, er, (w.bind er).mono fun _ _ _ H1 k _ _ _ _ ⟨as1, S1, d1, _, x1, s1, r1, w1⟩ => ?_⟩
    cases r1
    cases k with
    | false => exact w1.here s1 (er.mono x1.w)
    | true =>
      rw [if_pos rfl] at w1 ⊢
      refine ⟨fun σ H => ∃ as δ S, SR (wd X) as H S ∧ ER (wd X) as H σ δ ∧ WS (wd X) E D as H (whN fc fb m δ S), fun σ' H' h => ⟨m, Nat.lt_succ_self m, h⟩, as1, δ, S1, s1, er.mono x1.w, ?_⟩
      cases eb : fb δ S1 with
      | nx δ4 S4 =>
        rw [eb] at w1
        exact fun as' H' σ' x s r => ⟨as', δ4, S4, s, r, WS.later x w1⟩
      | ct δ4 S4 =>
        rw [eb] at w1
        exact fun as' H' σ' x s r => ⟨as', δ4, S4, s, r, WS.later x w1⟩
      | bk δ4 S4 =>
        rw [eb] at w1
        exact fun as' H' σ' x s r => w1 as' H' σ' x s r
      | rt d S4 =>
        rw [eb] at w1
        exact fun as' H' v x s r => w1 as' H' v x s r
      | rtT d S4 =>
        rw [eb] at w1
        exact fun as' H' v x s r => w1 as' H' v x s r
      | exc c p δ4 S4 =>
        rw [eb] at w1
        exact fun as' H' σ' cls dd x s r => w1 as' H' σ' cls dd x s r
      | bad => rw [eb] at w1; exact w1.elim
end

/-! ### raise, try -/
def dRaise (c : Str) : Sig → AH → Out := fun δ S => .exc c [] δ S
section
variable {X : Cx} {E : L2.St → XK} {e : Expr} {pos : Pos} {c : Str} {C : Addr}
theorem ds_raise (g : Gd X E) (he : PMk X e (fun _ H Q => Q (.ref C) none H)) (hm : X.mg c = some (.ref C)) : DS X E (.Raise (some e) none pos) (dRaise c) := (ps_raise g.calm g.tk he).imp fun D σ H ⟨as, δ, S, sr, er, w⟩ =>
  w as H σ (.ref C) none (Ext.refl _ _) sr er ⟨hm, fun _ => rfl, fun h => absurd rfl h⟩
end
def _root_.DL.Out.nox : Out → Out
  | .exc _ _ _ _ => .bad
  | o => o
/-- which classes a clause catches -/
def dTry (sub : Str → Option Bool) (fb fs : Sig → AH → Out) : Sig → AH → Out := fun δ S => match fb δ S with
  | .exc c p δ' S' => match sub c with
    | some true => (fs δ' S').nox
    | some false => .exc c p δ' S'
    | none => .bad
  | o => o
section
variable {X : Cx} {E : L2.St → XK} {x : Str} {c : Value} {body suite : List Stmt} {b₀ : Stmt} {np pos pos' : Pos} {fb fs : Sig → AH → Out} {sub : Str → Option Bool}
theorem ds_try (g : Gd X E) (hs : X.stack = X.env :: X.outer) (hf : X.env.frame = some X.env.locals) (hc : Names X x c) (hsub : ∀ n b cls, sub n = some b → X.mg n = some cls → PySem.W.exmOne X.K cls c = some b)
    (hb : ∀ (W : WX) (pn : List (Addr × Obj)) (xe : Value → Shared → Prop), Gd (X.tr pn xe) (WE W) → DSs (X.tr pn xe) (WE W) body fb)
    (hsu : ∀ (a : Addr) (pn : List (Addr × Obj)), DSs (X.suite a pn) EN (b₀ :: suite) fs) : DS X E (.Try body [.ExceptHandler (some (.Name x np)) none (b₀ :: suite) pos'] [] [] pos) (dTry sub fb fs) :=
  (ps_try_only (tb := fun W => tS (wd X) (WE W) fb) (ts := fun _ _ _ => tS (wd X) EN fs) (Wout := fun cls d σ H => E σ cls d H) hs hf hc g.tk (fun W pn xe tk po => hb W pn xe ⟨g.calm, tk, po⟩) (fun a oe cls d pn _ _ => hsu a _)).imp fun D σ H ⟨as, δ, S, sr, er, w⟩ => by
  refine ⟨as, δ, S, sr, er, ?_⟩
  unfold dTry at w
  split at w
  · rename_i n p δ' S' eq
    rw [eq]
    intro as' H' σ' cls dd x' s' r' ex
    split at w
    · rename_i e1
      refine ⟨true, hsub n true cls e1 ex.1, fun _ a na => ⟨as', δ', S', s', r', ?_⟩, fun z => Bool.noConfusion z⟩
      have w' := WS.later x' w
      cases ef : fs δ' S' with
      | nx δ4 S4 => rw [ef] at w'; exact w'
      | ct δ4 S4 => rw [ef] at w'; exact w'
      | bk δ4 S4 => rw [ef] at w'; exact w'
      | rt d S4 => rw [ef] at w'; exact w'
      | rtT d S4 => rw [ef] at w'; exact w'
      | exc c p δ4 S4 => rw [ef] at w'; exact w'.elim
      | bad => rw [ef] at w'; exact w'
    · rename_i e1
      exact ⟨false, hsub n false cls e1 ex.1, fun z => Bool.noConfusion z, fun _ => w as' H' σ' cls dd x' s' r' ex⟩
    · exact w.elim
  · rename_i n
    cases eq : fb δ S with
    | nx δ1 S1 => rw [eq] at w; exact w
    | rt d S1 => rw [eq] at w; exact w
    | rtT d S1 => rw [eq] at w; exact w
    | bk δ1 S1 => rw [eq] at w; exact w
    | ct δ1 S1 => rw [eq] at w; exact w
    | exc c p δ1 S1 => exact absurd eq (n _ _ _ _)
    | bad => rw [eq] at w; exact w
end

/-! ### defs -/
/-- a nest below may not name what is dropped, or it is as it was -/
def okc (n : Nat) (a b : Cell) : Prop := match b with
  | .lst _ => True
  | .nst ks => a = .nst ks ∨ ∀ k ∈ ks, k < n
def okC (n : Nat) : AH → AH → Prop
  | [], _ => True
  | _ :: _, [] => True
  | a :: S, b :: S' => okc n a b ∧ okC n S S'
theorem okC_get {n : Nat} : ∀ {S S' : AH} {i : Nat} {a : Cell} {ks : List Nat}, okC n S S' → S[i]? = some a → S'[i]? = some (.nst ks) → a = .nst ks ∨ ∀ k ∈ ks, k < n
  | [], _, i, a, ks, _, e, _ => by simp at e
  | _ :: _, [], i, a, ks, _, _, e => by simp at e
  | c :: S, d :: S', 0, a, ks, h, e, e' => by
    simp at e e'
    subst e e'
    exact h.1
  | c :: S, d :: S', i + 1, a, ks, h, e, e' => okC_get (i := i) h.2 (by simpa using e) (by simpa using e')
theorem okc_self (n : Nat) (a : Cell) : okc n a a := by
  cases a with
  | lst _ => trivial
  | nst ks => exact .inl rfl
theorem okC_app (n : Nat) : ∀ (S J : AH), okC n S (S ++ J)
  | [], _ => trivial
  | a :: S, J => ⟨okc_self n a, okC_app n S J⟩
theorem okC_self (n : Nat) (S : AH) : okC n S S := by
  have := okC_app n S []
  rwa [List.append_nil] at this
def _root_.DL.Out.heap : Out → AH
  | .nx _ S => S
  | .rt _ S => S
  | .rtT _ S => S
  | .bk _ S => S
  | .ct _ S => S
  | .exc _ _ _ S => S
  | .bad => []
/-- a flat cell above n, frozen -/
def frzC (n : Nat) (S : AH) (k : Nat) : Option PV := if n ≤ k then match S[k]? with
    | some (.lst xs) => some (.lst xs)
    | _ => none
  else none
def frzCs (n : Nat) (S : AH) : List Nat → Option (List PV)
  | [] => some []
  | k :: ks => (frzC n S k).bind fun x => (frzCs n S ks).map fun r => x :: r
def frzD (n : Nat) (S : AH) : DV → Option PV
  | .p x => some x
  | .c k => if n ≤ k then match S[k]? with
      | some (.lst xs) => some (.lst xs)
      | some (.nst ks) => (frzCs n S ks).map .lst
      | none => none
    else none
def frzDs (n : Nat) (S : AH) : List DV → Option (List PV)
  | [] => some []
  | d :: ds => (frzD n S d).bind fun x => (frzDs n S ds).map fun r => x :: r
/-- what a body gives: cells that nobody needs any more are dropped -/
def gcR (n : Nat) (keep : Bool) (o : Out) : Res DV := match o with
  | .nx _ S' => .ok (.p .non) (S'.take n)
  | .rt (.p v) S' => .ok (.p v) (S'.take n)
  | .rt (.c i) S' => if i < n then .ok (.c i) (S'.take n) else match S'[i]? with
    | some (.lst xs) => if keep = true then .ok (.c n) (S'.take n ++ [.lst xs]) else .ok (.p (.lst xs)) (S'.take n)
    | some (.nst ks) => match frzCs n S' ks with
      | some ps => .ok (.p (.lst ps)) (S'.take n)
      | none => .bad
    | none => .bad
  | .rtT ds S' => match frzDs n S' ds with
    | some ps => .ok (.p (.tup ps)) (S'.take n)
    | none => .bad
  | .exc c p _ S' => .exc c p (S'.take n)
  | _ => .bad
open Classical in
def gcK (S : AH) (keep : Bool) (o : Out) : Res DV := if okC S.length S o.heap then gcR S.length keep o else .bad
def dDef (N n : Nat) (keep : Bool) (body : Sig → AH → Out) : List DV → AH → Res DV := fun ds S => if ds.length = n then gcK S keep (body (ds.map some ++ List.replicate (N - n) none) S) else .bad
section
variable {M : Wd} {as as' : As} {H H' : Hp} {S S' : AH}
theorem As.off_less {as as' : As} (hc : ∃ m, as'.cells = as.cells ++ m) (hh : as'.hid = as.hid) {a : Addr} (h : as'.off a) : as.off a := by
  obtain ⟨m, e⟩ := hc
  exact ⟨fun z => h.1 (by rw [e]; exact List.mem_append_left _ z), by rw [← hh]; exact h.2⟩
mutual
theorem PR.fewer (f : ∀ a, as'.off a → as.off a) : ∀ {v : V} {x : PV}, PR M as' H v x → PR M as H v x
  | _, _, .non => .non
  | _, _, .bl b => .bl b
  | _, _, .int i => .int i
  | _, _, .str y => .str y
  | _, _, .tup h t => .tup ⟨h.1, h.2.imp (fun ⟨e, q⟩ => ⟨e, f _ q⟩) id⟩ (PRs.fewer f t)
  | _, _, .lst ⟨z, e, q⟩ t => .lst ⟨z, e, f _ q⟩ (PRs.fewer f t)
  | _, _, .fro h t => .fro ⟨h.1, h.2.imp (fun ⟨e, q⟩ => ⟨e, f _ q⟩) id⟩ (PRs.fewer f t)
  | _, _, .glob h r => .glob h r
theorem PRs.fewer (f : ∀ a, as'.off a → as.off a) : ∀ {vs : List V} {ps : List PV}, PRs M as' H vs ps → PRs M as H vs ps
  | _, _, .nil => .nil
  | _, _, .cons h t => .cons (PR.fewer f h) (PRs.fewer f t)
end
theorem Ext.back (x : Ext as H as' H') : Ext as H as H' := ⟨⟨[], by simp⟩, rfl, fun a o e q => ⟨(x.keep a o e q).1, q⟩, x.hkeep⟩
theorem cell_back (x : Ext as H as' H') (f : ∀ a, as'.off a → as.off a) (sr : SR M as H S) (s : SR M as' H' S') (ok : okC S.length S S') {i : Nat} {a : Addr} {c : Cell} (e1 : as.cells[i]? = some a) (e2 : S'[i]? = some c) : CR M as H' a c := by
  have q := s.cell i a c (x.get e1) e2
  cases c with
  | lst ps =>
    obtain ⟨vs, z, e, t⟩ := q
    exact ⟨vs, z, e, t.fewer f⟩
  | nst ks =>
    obtain ⟨vs, z, e, t⟩ := q
    refine ⟨vs, z, e, ?_⟩
    have hi : i < S.length := by rw [← sr.len]; exact (List.getElem?_eq_some_iff.mp e1).1
    have lt : ∀ k ∈ ks, k < as.cells.length := by
      rcases okC_get ok (List.getElem?_eq_getElem hi) e2 with h | h
      · obtain ⟨vs0, _, _, t0⟩ := sr.cell i a (.nst ks) e1 (by rw [List.getElem?_eq_getElem hi, h])
        have go : ∀ {vs : List V} {ks : List Nat}, KRs as vs ks → ∀ k ∈ ks, k < as.cells.length := by
          intro vs ks r
          induction r with
          | nil => intro k hk; cases hk
          | cons h t ih =>
            intro k hk
            rcases List.mem_cons.mp hk with rfl | hk
            · obtain ⟨b, e, _⟩ := h
              exact (List.getElem?_eq_some_iff.mp e).1
            · exact ih k hk
        exact go t0
      · rw [sr.len]; exact h
    obtain ⟨m, em⟩ := x.more
    have go : ∀ {vs : List V} {ks : List Nat}, KRs as' vs ks → (∀ k ∈ ks, k < as.cells.length) → KRs as vs ks := by
      intro vs ks r
      induction r with
      | nil => intro _; exact .nil
      | cons h t ih =>
        intro hk
        obtain ⟨b, e, r⟩ := h
        refine .cons ⟨b, ?_, r⟩ (ih fun k hk' => hk k (List.mem_cons_of_mem _ hk'))
        rw [em, List.getElem?_append_left (hk _ List.mem_cons_self)] at e
        exact e
    exact go t lt
theorem SR.back (x : Ext as H as' H') (sr : SR M as H S) (s : SR M as' H' S') (ok : okC S.length S S') : SR M as H' (S'.take S.length) := by
  obtain ⟨m, em⟩ := x.more
  have f : ∀ a, as'.off a → as.off a := fun a => As.off_less x.more x.hids
  have hlen : as.cells.length ≤ S'.length := by rw [← s.len, em, List.length_append]; omega
  refine ⟨by rw [List.length_take, ← sr.len]; omega, sr.nd, sr.apart, fun a ha => ?_, fun i a c e1 e2 => ?_⟩
  · obtain ⟨o, e⟩ := sr.hidd a ha
    exact ⟨o, x.hkeep a o ha e⟩
  · have hi : i < as.cells.length := (List.getElem?_eq_some_iff.mp e1).1
    rw [List.getElem?_take_of_lt (by rw [← sr.len]; exact hi)] at e2
    exact cell_back x f sr s ok e1 e2
theorem Ext.back1 (x : Ext as H as' H') {i : Nat} {a : Addr} (e : as'.cells[i]? = some a) : Ext as H (as.add a) H' := by
  refine ⟨⟨[a], rfl⟩, rfl, fun b o e1 q => ?_, x.hkeep⟩
  obtain ⟨h1, h2⟩ := x.keep b o e1 q
  refine ⟨h1, fun z => ?_, q.2⟩
  rcases List.mem_append.mp z with z | z
  · exact q.1 z
  · have : b = a := by simpa using z
    subst this
    exact h2.1 (List.mem_of_getElem? e)
theorem SR.back1 (x : Ext as H as' H') (sr : SR M as H S) (s : SR M as' H' S') {i : Nat} {a : Addr} {xs : List PV} (ok : okC S.length S S') (hi : S.length ≤ i) (e : as'.cells[i]? = some a) (eS : S'[i]? = some (.lst xs)) : SR M (as.add a) H' (S'.take S.length ++ [.lst xs]) := by
  have b := SR.back x sr s ok
  obtain ⟨m, em⟩ := x.more
  have na : a ∉ as.cells := fun z => by
    obtain ⟨j, hj⟩ := List.mem_iff_getElem?.mp z
    have h1 : j < as.cells.length := (List.getElem?_eq_some_iff.mp hj).1
    have h2 := x.get hj
    have h3 : j < as'.cells.length := (List.getElem?_eq_some_iff.mp h2).1
    have h4 : i < as'.cells.length := (List.getElem?_eq_some_iff.mp e).1
    rw [List.getElem?_eq_getElem h3] at h2
    rw [List.getElem?_eq_getElem h4] at e
    have h5 := (List.getElem_inj s.nd).mp (show as'.cells[j] = as'.cells[i] by rw [Option.some.inj h2, Option.some.inj e])
    rw [sr.len] at h1
    omega
  have f : ∀ b, as'.off b → (as.add a).off b := fun b q => by
    refine ⟨fun z => ?_, fun z => q.2 (by rw [x.hids]; exact z)⟩
    rcases List.mem_append.mp z with z | z
    · exact q.1 (by rw [em]; exact List.mem_append_left _ z)
    · have : b = a := by simpa using z
      subst this
      exact q.1 (List.mem_of_getElem? e)
  have hl : (S'.take S.length).length = as.cells.length := b.len.symm
  refine ⟨by unfold As.add; rw [List.length_append, List.length_append, hl]; rfl, List.nodup_append.mpr ⟨sr.nd, by simp, fun c hc d hd z => ?_⟩, fun c hc => ?_, b.hidd, fun j c cl e1 e2 => ?_⟩
  · have : d = a := by simpa using hd
    subst this
    subst z
    exact na hc
  · rcases List.mem_append.mp hc with z | z
    · exact sr.apart c z
    · have : c = a := by simpa using z
      subst this
      exact fun q => s.apart c (List.mem_of_getElem? e) (by rw [x.hids]; exact q)
  · have e1 : (as.cells ++ [a])[j]? = some c := e1
    by_cases hj : j < as.cells.length
    · rw [List.getElem?_append_left hj] at e1
      rw [List.getElem?_append_left (by rw [hl]; exact hj)] at e2
      rw [List.getElem?_take_of_lt (by rw [← sr.len]; exact hj)] at e2
      have q := cell_back x (fun a => As.off_less x.more x.hids) sr s ok e1 e2
      cases cl with
      | lst ps =>
        obtain ⟨vs, z, e, t⟩ := q
        obtain ⟨vs', z', e', t'⟩ := s.cell j c (.lst ps) (x.get e1) e2
        exact ⟨vs', z', e', t'.fewer f⟩
      | nst ks =>
        obtain ⟨vs, z, e, t⟩ := q
        exact ⟨vs, z, e, Paired.mapP t fun _ _ ⟨b, e, r⟩ => ⟨b, by unfold As.add; rw [List.getElem?_append_left (List.getElem?_eq_some_iff.mp e).1]; exact e, r⟩⟩
    · have hl2 : j < (as.cells ++ [a]).length := (List.getElem?_eq_some_iff.mp e1).1
      rw [List.length_append, List.length_singleton] at hl2
      have hj' : j = as.cells.length := by omega
      subst hj'
      rw [List.getElem?_append_right (Nat.le_refl _), Nat.sub_self] at e1
      rw [← hl, List.getElem?_append_right (Nat.le_refl _), Nat.sub_self] at e2
      have e1' : a = c := by simpa using e1
      have e2' : Cell.lst xs = cl := by simpa using e2
      subst e1'
      subst e2'
      obtain ⟨b2, vs, eb, z, hb, t⟩ := s.at eS
      rw [e] at eb; cases eb
      exact ⟨vs, z, hb, t.fewer f⟩
end
/-- a cell above is off behind -/
theorem off_back {M : Wd} {as as' : As} {H H' : Hp} {S S' : AH} (x : Ext as H as' H') (sr : SR M as H S) (s : SR M as' H' S') {i : Nat} {a : Addr} (hi : S.length ≤ i) (ea : as'.cells[i]? = some a) : as.off a := by
  refine ⟨fun q => ?_, fun q => s.apart a (List.mem_of_getElem? ea) (by rw [x.hids]; exact q)⟩
  obtain ⟨j, hj⟩ := List.mem_iff_getElem?.mp q
  have h1 : j < as.cells.length := (List.getElem?_eq_some_iff.mp hj).1
  have h2 := x.get hj
  have h3 : j < as'.cells.length := (List.getElem?_eq_some_iff.mp h2).1
  have h4 : i < as'.cells.length := (List.getElem?_eq_some_iff.mp ea).1
  rw [List.getElem?_eq_getElem h3] at h2
  rw [List.getElem?_eq_getElem h4] at ea
  have h5 := (List.getElem_inj s.nd).mp (show as'.cells[j] = as'.cells[i] by rw [Option.some.inj h2, Option.some.inj ea])
  rw [sr.len] at h1
  omega
section
variable {M : Wd} {as as' : As} {H H' : Hp} {S S' : AH}
theorem frzC_ok (x : Ext as H as' H') (sr : SR M as H S) (s : SR M as' H' S') {k : Nat} {a : Addr} {p : PV} (ea : as'.cells[k]? = some a) (e : frzC S.length S' k = some p) : PR M as H' (.ref a) p := by
  unfold frzC at e
  split at e
  · rename_i hk
    split at e
    · rename_i xs eS
      cases e
      obtain ⟨b2, vs, eb, z, hb, t⟩ := s.at eS
      rw [ea] at eb; cases eb
      exact .lst ⟨z, hb, off_back x sr s hk ea⟩ (t.fewer fun a => As.off_less x.more x.hids)
    · cases e
  · cases e
theorem frzCs_ok (x : Ext as H as' H') (sr : SR M as H S) (s : SR M as' H' S') : ∀ {ks : List Nat} {vs : List V} {ps : List PV}, KRs as' vs ks → frzCs S.length S' ks = some ps → PRs M as H' vs ps
  | [], _, _, .nil, e => by cases e; exact .nil
  | k :: ks, _, _, .cons h t, e => by
    simp only [frzCs, Option.bind_eq_some_iff, Option.map_eq_some_iff] at e
    obtain ⟨y, e1, r, e2, rfl⟩ := e
    obtain ⟨b, eb, rfl⟩ := h
    exact .cons (frzC_ok x sr s eb e1) (frzCs_ok x sr s t e2)
theorem frzD_ok (x : Ext as H as' H') (sr : SR M as H S) (s : SR M as' H' S') {d : DV} {v : V} {p : PV} (r : DVR M as' H' v d) (e : frzD S.length S' d = some p) : PR M as H' v p := by
  cases d with
  | p y => cases e; exact PR.fewer (fun a => As.off_less x.more x.hids) r
  | c k =>
    obtain ⟨a, ea, rfl⟩ := r
    simp only [frzD] at e
    split at e
    · rename_i hk
      split at e
      · rename_i xs eS
        cases e
        obtain ⟨b2, vs, eb, z, hb, t⟩ := s.at eS
        rw [ea] at eb; cases eb
        exact .lst ⟨z, hb, off_back x sr s hk ea⟩ (t.fewer fun a => As.off_less x.more x.hids)
      · rename_i ks eS
        simp only [Option.map_eq_some_iff] at e
        obtain ⟨ps, e1, rfl⟩ := e
        obtain ⟨b2, vs, eb, z, hb, t⟩ := s.atN eS
        rw [ea] at eb; cases eb
        exact .lst ⟨z, hb, off_back x sr s hk ea⟩ (frzCs_ok x sr s t e1)
      · cases e
    · cases e
theorem frzDs_ok (x : Ext as H as' H') (sr : SR M as H S) (s : SR M as' H' S') : ∀ {ds : List DV} {vs : List V} {ps : List PV}, DVRs M as' H' vs ds → frzDs S.length S' ds = some ps → PRs M as H' vs ps
  | [], _, _, .nil, e => by cases e; exact .nil
  | d :: ds, _, _, .cons h t, e => by
    simp only [frzDs, Option.bind_eq_some_iff, Option.map_eq_some_iff] at e
    obtain ⟨y, e1, r, e2, rfl⟩ := e
    exact .cons (frzD_ok x sr s h e1) (frzDs_ok x sr s t e2)
end
theorem gc_ok {M : Wd} {E : XK} {as : As} {H : Hp} {S : AH} {Q : VK} {keep : Bool} {o : Out} (sr : SR M as H S) (w : WR M E (DVR M) as H (gcK S keep o) Q) : WS M (fun _ => E) { nx := fun _ H' => Q .non H', rt := Q } as H o := by
  have f : ∀ {as' : As} {H' : Hp}, Ext as H as' H' → ∀ a, as'.off a → as.off a := fun x a => As.off_less x.more x.hids
  have ok : okC S.length S o.heap := by
    refine Classical.byContradiction fun n => ?_
    unfold gcK at w
    rw [if_neg n] at w
    exact w
  unfold gcK at w
  rw [if_pos ok] at w
  cases o with
  | nx δ' S' => exact fun as' H' σ' x s r => w as H' .non x.back (SR.back x sr s ok) .non
  | rt d S' =>
    intro as' H' v x s r
    cases d with
    | p v => exact w as H' _ x.back (SR.back x sr s ok) (PR.fewer (f x) r)
    | c i =>
      unfold gcR at w
      dsimp only at w
      obtain ⟨a, ea, rfl⟩ := r
      split at w
      · rename_i hi
        refine w as H' _ x.back (SR.back x sr s ok) ⟨a, ?_, rfl⟩
        obtain ⟨m, em⟩ := x.more
        rw [em, List.getElem?_append_left (by rw [sr.len]; exact hi)] at ea
        exact ea
      · rename_i hi
        split at w
        · rename_i xs eS
          split at w
          · exact w (as.add a) H' _ (x.back1 ea) (SR.back1 x sr s ok (by omega) ea eS) ⟨a, by unfold As.add; rw [← sr.len]; simp, rfl⟩
          · obtain ⟨b2, vs, eb, z, hb, t⟩ := s.at eS
            rw [ea] at eb; cases eb
            exact w as H' _ x.back (SR.back x sr s ok) (PR.lst ⟨z, hb, off_back x sr s (by omega) ea⟩ (t.fewer (f x)))
        · rename_i ks eS
          split at w
          · rename_i ps e1
            obtain ⟨b2, vs, eb, z, hb, t⟩ := s.atN eS
            rw [ea] at eb; cases eb
            exact w as H' _ x.back (SR.back x sr s ok) (PR.lst ⟨z, hb, off_back x sr s (by omega) ea⟩ (frzCs_ok x sr s t e1))
          · exact w.elim
        · exact w.elim
  | rtT ds S' =>
    intro as' H' v x s ⟨a, vs, e, hT, r⟩
    subst e
    unfold gcR at w
    dsimp only at w
    split at w
    · rename_i ps e1
      refine w as H' _ x.back (SR.back x sr s ok) (PR.tup ⟨hT.1, ?_⟩ (frzDs_ok x sr s r e1))
      rcases hT.2 with ⟨e2, q⟩ | h
      · exact .inl ⟨e2, f x a q⟩
      · exact .inr h
    · exact w.elim
  | bk δ' S' => exact w.elim
  | ct δ' S' => exact w.elim
  | exc c p δ' S' =>
    intro as' H' σ' cls dd x s r ex
    refine w as H' cls dd x.back (SR.back x sr s ok) ⟨ex.1, ex.2.1, fun h => ?_⟩
    obtain ⟨d, fs, e1, e2, e3, e4⟩ := ex.2.2 h
    exact ⟨d, fs, e1, f x d e2, e3, Paired.mapP e4 fun _ _ q => ⟨q.1, PR.fewer (f x) q.2⟩⟩
  | bad => exact w
theorem er_start {M : Wd} {as : As} {H : Hp} {N : List Str} {vs : List V} {ds : List DV} (r : DVRs M as H vs ds) {n : Nat} (hn : ds.length = n) : ER M as H (L2.start N vs) (ds.map some ++ List.replicate (N.length - n) none) := by
  have hl : vs.length = ds.length := Paired.length r
  unfold L2.start
  refine ⟨by simp [hl, hn], fun i d e => ?_⟩
  by_cases hi : i < ds.length
  · rw [List.getElem?_append_left (by simpa using hi), List.getElem?_map] at e
    have hi' : i < vs.length := by omega
    rw [List.getElem?_append_left (by simpa using hi'), List.getElem?_map]
    rw [List.getElem?_eq_getElem hi] at e
    rw [List.getElem?_eq_getElem hi']
    have go : ∀ {vs : List V} {ds : List DV}, DVRs M as H vs ds → ∀ (i : Nat) (h1 : i < vs.length) (h2 : i < ds.length), DVR M as H vs[i] ds[i] := by
      intro vs ds r
      induction r with
      | nil => intro i h1; exact absurd h1 (Nat.not_lt_zero _)
      | cons h t ih =>
        intro i h1 h2
        cases i with
        | zero => exact h
        | succ i => exact ih i (Nat.lt_of_succ_lt_succ h1) (Nat.lt_of_succ_lt_succ h2)
    cases e
    exact ⟨vs[i], rfl, go r i hi' hi⟩
  · rw [List.getElem?_append_right (by simpa using hi), List.getElem?_replicate] at e
    split at e <;> cases e
section
variable {P : Program} {w : World} {K : PySem.W.Frag} {mg : Str → Option Value} {base : Heap}
/-- THE RULE for a def -/
theorem def_ok {x qual : Str} {st : Stmt} {f : Addr} {fd : FuncData} {N ps : List Str} {k : Nat} {n : Nat} {keep : Bool} {body : Sig → AH → Out} {nN : Nat} (F : Fun K x qual st f fd) (S : FnScope N ps (defScope st)) (hn : n = ps.length) (hN : nN = N.length)
    (hbody : ∀ (cdv : Value) (A : Around) (outer : List Env) (s : Shared) (H : Hp) (E : XK), Room k (A.deeper (envOfC qual (defScope st) s.heap.objs.size f cdv)) →
      Gd (cxOf (L2.CX P w) P w K mg base N qual (defScope st) f cdv A outer s H E) (fun _ => E) →
      DSs (cxOf (L2.CX P w) P w K mg base N qual (defScope st) f cdv A outer s H E) (fun _ => E) (defBody st) body) : FnOk P w K mg base (L2.CX P w) (k + 1) f fd ps (spD ⟨K, mg⟩ (dDef nN n keep body)) := by
  subst hn hN
  refine F.okX S (fun vs H Q E h => ?_) fun cdv A outer s H vs Q E hr h => ?_
  · obtain ⟨as, ds, S, sr, r, w⟩ := h
    unfold dDef at w
    split at w
    · rename_i e
      rw [← e]
      exact Paired.length r
    · exact w.elim
  · refine ⟨_, hbody cdv A outer s H E hr ⟨rfl, takes_of rfl rfl rfl rfl, passes_of rfl⟩, ?_⟩
    obtain ⟨as, ds, S, sr, r, w⟩ := h
    unfold dDef at w
    split at w
    · rename_i e
      exact ⟨as, _, S, sr, er_start r e, gc_ok sr w⟩
    · exact w.elim
end
end
end DL
namespace DL
noncomputable section
open PySem PySem.Spec PyProof.Rows L2

/-! ### x[::-1] -/
section
variable {prog : Program} {w : World} {A : Around} {E : Value → Shared → Prop} {s : Shared}
theorem applied_rev {sl : Addr} {u : Tok} {n : Nat} {Q : Int × Int × Nat → Shared → Prop} (hs : s.heap.IsSliceOf sl .none .none (.int (-1) u)) (h : Q ((n : Int) - 1, -1, n) s) :
    wpAny (model prog w) A (Builtin.Slice.sliceApplied (.ref sl) (pure (n : Int))) Q E s := by
  obtain ⟨os, hos, hcs, hds⟩ := id hs
  unfold Builtin.Slice.sliceApplied Builtin.Slice.sliceFields
  refine wpAny_bind (wpAny_bind (wpAny_field hos hds (x := .none) rfl (wpAny_bind (wpAny_field hos hds (x := .none) rfl (wpAny_bind (wpAny_field hos hds (x := .int (-1) u) rfl (wpAny_pure ?_)))))))
  refine wpAny_bind (slicePart_int ?_)
  show wpAny _ _ (if ((-1 : Int) == 0) = true then _ else _) _ _ s
  rw [if_neg (by decide)]
  refine wpAny_bind (slicePart_none (wpAny_bind (slicePart_none (wpAny_bind (wpAny_pure ?_)))))
  show wpAny _ _ (match Builtin.Slice.sliceAdjust none none (-1) (n : Int) with | (lo, hi) => pure (lo, (-1 : Int), Builtin.Slice.slicePlaces lo hi (-1))) _ _ s
  have e1 : Builtin.Slice.sliceAdjust none none (-1) (n : Int) = ((n : Int) - 1, -1) := by
    unfold Builtin.Slice.sliceAdjust
    simp
  rw [e1]
  show wpAny _ _ (pure ((n : Int) - 1, (-1 : Int), Builtin.Slice.slicePlaces ((n : Int) - 1) (-1) (-1))) _ _ s
  have e2 : Builtin.Slice.slicePlaces ((n : Int) - 1) (-1) (-1) = n := by
    unfold Builtin.Slice.slicePlaces
    have h1 : ¬ ((-1 : Int) > 0) := by decide
    rw [if_neg h1]
    by_cases hn : n = 0
    · subst hn; rw [if_neg (by decide)]; rfl
    · rw [if_pos (by omega)]
      have : ((n : Int) - 1 - -1 - 1) / - -1 + 1 = n := by
        rw [show - (-1 : Int) = 1 by decide, Int.ediv_one]; omega
      rw [this]; exact Int.toNat_natCast n
  rw [e2]
  exact wpAny_pure h
theorem pick_rev (xs : Array Value) : ((List.range xs.size).filterMap fun (m : Nat) => xs[((xs.size : Int) - 1 + (m : Int) * (-1)).toNat]?) = xs.toList.reverse := by
  have e : ∀ m, m < xs.size → xs[((xs.size : Int) - 1 + (m : Int) * (-1)).toNat]? = xs.toList.reverse[m]? := by
    intro m hm
    have h1 : ((xs.size : Int) - 1 + (m : Int) * (-1)).toNat = xs.size - 1 - m := by omega
    rw [h1, List.getElem?_reverse (by simpa using hm)]
    simp
  have gen : ∀ (l : List Value) (f : Nat → Option Value), (∀ m, m < l.length → f m = l[m]?) → (List.range l.length).filterMap f = l := by
    intro l
    induction l with
    | nil => intro f _; rfl
    | cons a l ih =>
      intro f h
      rw [List.length_cons, List.range_succ_eq_map, List.filterMap_cons, h 0 (by simp)]
      simp only [List.getElem?_cons_zero]
      rw [List.filterMap_map, ih (f ∘ Nat.succ) (fun m hm => by
        have := h (m + 1) (by simpa using hm)
        simpa using this)]
  have hl : xs.toList.reverse.length = xs.size := by simp
  rw [← hl]
  refine gen _ _ fun m hm => ?_
  rw [hl] at hm ⊢
  exact e m hm
theorem getItem_tuple_rev {t sl : Addr} {items : Array Value} {u : Tok} {Q : Value → Shared → Prop} (ht : IsTup s.heap t items) (hs : s.heap.IsSliceOf sl .none .none (.int (-1) u))
    (h : Q (.ref s.heap.objs.size) { s with heap := s.heap.push { cls := .type "tuple", data := .seq items.toList.reverse.toArray } }) (hsz : items.size ≤ sizeLine) : wpAny (model prog w) A (getItem (.ref t) (.ref sl)) Q E s := by
  have htake : sizeOk (.seq items.toList.reverse.toArray) := by
    show items.toList.reverse.toArray.size ≤ sizeLine
    rw [List.size_toArray, List.length_reverse, Array.length_toList]
    exact hsz
  obtain ⟨os, hos, hcs, hds⟩ := id hs
  have hTs : s.TypeIs (.ref sl) "slice" := ⟨os, hos, hcs⟩
  unfold getItem
  try with_reducible refine wpAny_holding ?_
  first | refine wpAny_bind (wpAny_pure ?_) | skip
  refine wpAny_bind (wpAny_sequenceKey ht.typeIs (by decide) ?_)
  refine wpAny_bind (wpAny_callSpecial?_slot (name := Str.ofString "__getitem__") ht.typeIs PyProof.Rows.slot_tuple_getitem
    (wpAny_call_entry PyProof.Rows.slot_tuple_getitem ht.typeIs entry_tuple_getitem ?_ (args_tuple_getitem _ _)))
  show wpAny _ _ (Builtin.Tuple.tupleItemsOf (.ref t) >>= _) _ _ s
  refine wpAny_bind (tupleItemsOf_ ht ?_)
  refine wpAny_bind (wpAny_typeOf hTs ?_)
  rw [if_pos (by decide)]
  refine wpAny_bind (applied_rev hs ?_)
  have hno : ¬ (((items.size : Int) - 1 == 0 && (-1 : Int) == 1 && items.size == items.size) = true) := by
    intro q
    rw [Bool.and_eq_true, Bool.and_eq_true] at q
    exact absurd q.1.2 (by decide)
  show wpAny _ _ (if ((items.size : Int) - 1 == 0 && (-1 : Int) == 1 && items.size == items.size) = true then _ else _) _ _ s
  rw [if_neg hno, pick_rev]
  first
    | exact wpAny_bind (m := Builtin.Tuple.tupleExact _) (wpAny_newObj_type (wpAny_pure ⟨_, rfl, wpAny_pure h⟩) htake)
    | exact wpAny_bind (m := Builtin.Tuple.tupleExact _) (wpAny_newObj_type (wpAny_bind (wpAny_pure (wpAny_pure ⟨_, rfl, wpAny_pure h⟩))) htake)
    | exact wpAny_bind (wpAny_bind (m := Builtin.Tuple.tupleExact _) (wpAny_newObj_type (wpAny_pure (wpAny_pure ⟨_, rfl, wpAny_pure h⟩)) htake))
    | exact wpAny_bind (wpAny_bind (m := Builtin.Tuple.tupleExact _) (wpAny_newObj_type (wpAny_pure ⟨_, rfl, wpAny_pure h⟩) htake))
end
def tRevA (K : PySem.W.Frag) (te : TE) : TE := fun σ H Q => te σ H fun x H1 => (∃ a xs, x = .ref a ∧ SqL K H1 a xs ∧ ∀ p, H1 p = none → Q (.ref p) (upd H1 p (.lst xs.reverse))) ∨ (∃ a xs, x = .ref a ∧ SqT K H1 a xs ∧ ∀ p, H1 p = none → Q (.ref p) (upd H1 p (.tup xs.reverse)))
theorem pe_revA {X : Cx} {e : Expr} {te : TE} {k : Nat} {p1 p2 p3 pos : Pos} (he : PE X e te) : PE X (.Subscript e (.Slice none none (some (.UnaryOp .USub (.Constant (.int 1) k p1) p2)) p3) pos) (tRevA X.K te) := by
  refine ⟨fun pins s σ H Q I h => ?_⟩
  refine Subscript_ (thn (he.run pins s σ H _ I h) fun v s1 ⟨x, H1, I1, r1, q1⟩ => ?_)
  have hst : PO X (some (.UnaryOp .USub (.Constant (.int 1) k p1) p2)) (tPart (tUn (rU fun i => .int (-i)) (tC (.int 1)))) := po_some (pe_un un_neg pe_int)
  rcases q1 with ⟨a, xs, ex, hx, q⟩ | ⟨a, xs, ex, hx, q⟩
  · subst ex
    cases r1
    refine wpAny_Slice (thn (po_none.run pins s1 σ H1 (fun o H2 => o = none ∧ H2 = H1) I1 ⟨rfl, rfl⟩) fun vl s2 ⟨l, H2, I2, pl, el, e2⟩ => ?_)
    subst el e2
    refine thn (po_none.run pins s2 σ H2 (fun o H3 => o = none ∧ H3 = H2) I2 ⟨rfl, rfl⟩) fun vu s3 ⟨u, H3, I3, pu, eu, e3⟩ => ?_
    subst eu e3
    refine thn (hst.run pins s3 σ H3 (fun o H4 => o = some (-1) ∧ H4 = H3) I3 ⟨1, rfl, -1, rfl, rfl, rfl⟩) fun vs s4 ⟨o, H4, I4, ps, eo, e4⟩ => ?_
    subst eo e4
    have I5 : Inv X pins σ H4 { s4 with heap := s4.heap.push { cls := .type "slice", data := .fields #[vl, vu, vs] } } := I4.kept (t' := s4.toks) fun b ob q => Heap.get?_push_of_some _ q
    obtain ⟨its, r, ht, hz⟩ := I5.list hx
    have hlen := r.length
    show wpAny (model X.prog X.w) X.A (subscriptTail e (.Slice none none (some (.UnaryOp .USub (.Constant (.int 1) k p1) p2)) p3) (.ref a) (.ref s4.heap.objs.size)) (EP X pins σ Q) X.xe { s4 with heap := s4.heap.push { cls := .type "slice", data := .fields #[vl, vu, vs] } }
    refine tail_any (ops := [.ref a, .ref s4.heap.objs.size]) ht.isList.typeIs (PySem.slot_list_getitem.lookup) ?_ (by with_unfolding_all rfl)
    refine wpAny_getItem_list_slice ht.isList (Heap.IsSliceOf.new _ vl vu vs) pl pu ps (by decide) ?_ (by rw [List.size_toArray]; omega)
    rw [PySem.W.krv_pick]
    refine ⟨.ref _, _, I5.laid (t' := s4.toks) (o := .lst xs.reverse) (fun b ob q => Heap.get?_push_of_some _ q) (Nat.le_refl _) ?_, rfl, q _ (I5.hok.fresh (Nat.le_refl _))⟩
    exact ⟨by rw [List.length_reverse]; exact hz, _, 0, r.reverse, Heap.get?_push_size _ rfl⟩
  · subst ex
    cases r1
    refine wpAny_Slice (thn (po_none.run pins s1 σ H1 (fun o H2 => o = none ∧ H2 = H1) I1 ⟨rfl, rfl⟩) fun vl s2 ⟨l, H2, I2, pl, el, e2⟩ => ?_)
    subst el e2
    refine thn (po_none.run pins s2 σ H2 (fun o H3 => o = none ∧ H3 = H2) I2 ⟨rfl, rfl⟩) fun vu s3 ⟨u, H3, I3, pu, eu, e3⟩ => ?_
    subst eu e3
    refine thn (hst.run pins s3 σ H3 (fun o H4 => o = some (-1) ∧ H4 = H3) I3 ⟨1, rfl, -1, rfl, rfl, rfl⟩) fun vs s4 ⟨o, H4, I4, ps, eo, e4⟩ => ?_
    subst eo e4
    have I5 : Inv X pins σ H4 { s4 with heap := s4.heap.push { cls := .type "slice", data := .fields #[vl, vu, vs] } } := I4.kept (t' := s4.toks) fun b ob q => Heap.get?_push_of_some _ q
    obtain ⟨its, r, ht, hz⟩ := I5.tuple hx
    have hlen := r.length
    cases pl
    cases pu
    obtain ⟨t5, rfl⟩ : ∃ t, vs = Value.int (-1) t := by cases ps; exact ⟨_, rfl⟩
    show wpAny (model X.prog X.w) X.A (subscriptTail e (.Slice none none (some (.UnaryOp .USub (.Constant (.int 1) k p1) p2)) p3) (.ref a) (.ref s4.heap.objs.size)) (EP X pins σ Q) X.xe _
    refine tail_any (ops := [.ref a, .ref s4.heap.objs.size]) ht.typeIs (PyProof.Rows.slot_tuple_getitem.lookup) ?_ (by with_unfolding_all rfl)
    refine getItem_tuple_rev ht (Heap.IsSliceOf.new _ .none .none _) ?_ (by rw [List.size_toArray]; omega)
    refine ⟨.ref _, _, I5.laid (t' := s4.toks) (o := .tup xs.reverse) (fun b ob q => Heap.get?_push_of_some _ q) (Nat.le_refl _) ?_, rfl, q _ (I5.hok.fresh (Nat.le_refl _))⟩
    exact ⟨by rw [List.length_reverse]; exact hz, _, r.reverse, ⟨_, Heap.get?_push_size _ rfl, rfl, _, rfl⟩⟩
def revO : Op1 := fun a S => match a with
  | .p (.tup xs) => some (.p (.tup xs.reverse), S)
  | _ => match litems a S with
    | some xs => some (.p (.lst xs.reverse), S)
    | none => none
section
variable {X : Cx} {E : L2.St → XK} {a : Expr} {k : Nat} {p1 p2 p3 pos : Pos} {fa : Sig → AH → Res DV}
theorem de_rev (ha : DE X E a fa) : DE X E (.Subscript a (.Slice none none (some (.UnaryOp .USub (.Constant (.int 1) k p1) p2)) p3) pos) (dUn revO fa) := (pe_revA ha).imp fun σ H Q ⟨as, δ, S, sr, er, w⟩ =>
  ⟨as, δ, S, sr, er, w.bind.mono fun _ _ _ _ _ _ _ _ _ ⟨as1, S1, d1, _, x1, s1, r1, w1⟩ => by
    unfold revO at w1
    split at w1
    · cases r1 with
      | tup h t => exact .inr ⟨_, _, rfl, h.sq, fun p n => WO.tup (ps := _) (S := S1) (fun as' H' b => w1 as' H' b) s1 (by rw [List.length_reverse]; exact h.1) t.reverse n⟩
    · split at w1
      · rename_i xs e
        obtain ⟨a, vs, rfl, z, q, t⟩ := litems_sq s1 r1 e
        exact .inl ⟨_, _, rfl, q, fun p n => WO.lst (ps := _) (S := S1) (fun as' H' b => w1 as' H' b) s1 (by rw [List.length_reverse]; exact z) t.reverse n⟩
      · exact w1.elim⟩
end

/-! ### methods of lists -/
abbrev OpM := DV → List DV → AH → Option (DV × AH)
def rMD (M : Wd) (o : OpM) : V → List V → Hp → VK → Prop := fun x vs H Q => ∃ as S d ds, SR M as H S ∧ DVR M as H x d ∧ DVRs M as H vs ds ∧ WO M as H (o d ds S) Q
def isLst (d : DV) (S : AH) : Bool := (litems d S).isSome || (nitems d S).isSome
theorem isLst_sq {M : Wd} {as : As} {H : Hp} {S : AH} {d : DV} {v : V} (h : SR M as H S) (r : DVR M as H v d) (e : isLst d S = true) : ∃ a vs, v = .ref a ∧ SqL M.K H a vs := by
  unfold isLst at e
  rcases Bool.or_eq_true_iff.mp e with e | e
  · obtain ⟨xs, e1⟩ := Option.isSome_iff_exists.mp e
    obtain ⟨a, vs, rfl, z, q, t⟩ := litems_sq h r e1
    exact ⟨a, vs, rfl, q⟩
  · obtain ⟨xs, e1⟩ := Option.isSome_iff_exists.mp e
    obtain ⟨a, vs, rfl, z, q, t⟩ := nitems_sq h r e1
    exact ⟨a, vs, rfl, .of q⟩
def dMeth (o : OpM) (fo : Sig → AH → Res DV) (fs : Sig → AH → Res (List DV)) : Sig → AH → Res DV := fun δ S => (fo δ S).bind fun d S => if isLst d S = true then (fs δ S).bind fun ds S => lift (o d ds S) else .bad
def dMeth0 (o : OpM) (fo : Sig → AH → Res DV) : Sig → AH → Res DV := fun δ S => (fo δ S).bind fun d S => if isLst d S = true then lift (o d [] S) else .bad
section
variable {X : Cx} {E : L2.St → XK} {ob e : Expr} {es : List Expr} {name : Str} {id : String} {apos cpos : Pos} {o : OpM} {fo : Sig → AH → Res DV} {fs : Sig → AH → Res (List DV)}
theorem de_meth (slot : Slot "list" name id) (hty : typeOf (.builtin id) = pure (.type "method_descriptor")) (hm : MtR X id (rMD (wd X) o)) (ho : DE X E ob fo) (ha : DA X E (e :: es) fs)
    (hbase : attributeBase ob name X.env (eval ob X.env) = eval ob X.env := by rfl)
    (hfew : ((backTo cpos (starEach (e :: es) X.env)).all (fun x => !x.1) && (backToKw cpos (keywordEach [] X.env)).all (fun x => x.1.isSome)
      && decide ((e :: es).length + ([] : List Keyword).length + (if ([] : List Keyword).isEmpty then 0 else 1) < 30)) = true := by rfl)
    (hline : (apos.endLine == cpos.line) = true := by rfl) (hs : starEach (e :: es) X.env = (false, eval e X.env) :: starEach es X.env := by rfl) (hplain : (backTo cpos (starEach es X.env)).any (·.1) = false := by rfl) :
    DE X E (.Call (.Attribute ob name apos) (e :: es) [] cpos) (dMeth o fo fs) := (pe_bm PySem.F.plainAttrs_list slot hty hm ho ha hbase hfew hline hs hplain).imp fun σ H Q ⟨as, δ, S, sr, er, w⟩ =>
  ⟨as, δ, S, sr, er, w.bind.mono fun _ _ _ _ _ _ _ _ _ ⟨as1, S1, d1, _, x1, s1, r1, w1⟩ => by
    split at w1
    · rename_i e1
      obtain ⟨a, vs, rfl, q⟩ := isLst_sq s1 r1 e1
      exact ⟨.inl ⟨rfl, _, q⟩, as1, δ, S1, s1, er.mono x1.w, w1.bind.mono fun _ _ _ _ _ _ _ _ _ ⟨as2, S2, d2, _, x2, s2, r2, w2⟩ => ⟨as2, S2, d1, d2, s2, r1.mono x2.w, r2, w2.wo⟩⟩
    · exact w1.elim⟩
theorem de_meth0 (slot : Slot "list" name id) (hty : typeOf (.builtin id) = pure (.type "method_descriptor")) (hm : MtR X id (rMD (wd X) o)) (ho : DE X E ob fo)
    (hbase : attributeBase ob name X.env (eval ob X.env) = eval ob X.env := by rfl) (hline : (apos.endLine == cpos.line) = true := by rfl) :
    DE X E (.Call (.Attribute ob name apos) [] [] cpos) (dMeth0 o fo) := (pe_bm0 PySem.F.plainAttrs_list slot hty hm ho hbase hline).imp fun σ H Q ⟨as, δ, S, sr, er, w⟩ =>
  ⟨as, δ, S, sr, er, w.bind.mono fun _ _ _ _ _ _ _ _ _ ⟨as1, S1, d1, _, x1, s1, r1, w1⟩ => by
    split at w1
    · rename_i e1
      obtain ⟨a, vs, rfl, q⟩ := isLst_sq s1 r1 e1
      exact ⟨.inl ⟨rfl, _, q⟩, as1, S1, d1, [], s1, r1, .nil, w1.wo⟩
    · exact w1.elim⟩
end
def appendM : OpM := fun d ds S => match d, ds with
  | .c n, [.p x] => match S[n]? with
    | some (.lst xs) => if xs.length < 16777216 then some (.p .non, S.set n (.lst (xs ++ [x]))) else none
    | _ => none
  | .c n, [.c k] => match S[n]? with
    | some (.nst ks) => if ks.length < 16777216 then some (.p .non, S.set n (.nst (ks ++ [k]))) else none
    | _ => none
  | _, _ => none
def popM : OpM := fun d ds S => match d, ds with
  | .c n, [] => match S[n]? with
    | some (.lst xs) => match xs[xs.length - 1]? with
      | some y => some (.p y, S.set n (.lst xs.dropLast))
      | none => none
    | _ => none
  | .c n, [.p (.int i)] => match S[n]? with
    | some (.lst xs) => if 0 ≤ i ∧ i < 1000000 then match xs[i.toNat]? with
        | some y => some (.p y, S.set n (.lst (xs.eraseIdx i.toNat)))
        | none => none
      else none
    | _ => none
  | _, _ => none
theorem PRs.eraseIdx {M : Wd} {as : As} {H : Hp} : ∀ {vs : List V} {ps : List PV} (i : Nat), PRs M as H vs ps → PRs M as H (vs.eraseIdx i) (ps.eraseIdx i)
  | _, _, _, .nil => .nil
  | _, _, 0, .cons _ t => t
  | _, _, i + 1, .cons r t => .cons r (PRs.eraseIdx i t)
/-- xs.remove(k) of numbers: the first one -/
def remM : OpM := fun d ds S => match d, ds with
  | .c n, [.p (.int k)] => match S[n]? with
    | some (.lst xs) => match intsOf xs with
      | some ns => if k ∈ ns then some (.p .non, S.set n (.lst ((ns.erase k).map PV.int))) else none
      | none => none
    | _ => none
  | _, _ => none
def cntM : OpM := fun d ds S => match ds with
  | [.p (.int k)] => match (litems d S).bind intsOf with
    | some ns => some (.p (.int (ns.count k : Nat)), S)
    | none => none
  | _ => none
def idxM : OpM := fun d ds S => match ds with
  | [.p (.int k)] => match (litems d S).bind intsOf with
    | some ns => if k ∈ ns then some (.p (.int (ns.idxOf k : Nat)), S) else none
    | none => none
  | _ => none
theorem idxOf_first : ∀ (ns : List Int) (k : Int) (m : Nat), m < ns.idxOf k → ns[m]? ≠ some k
  | [], _, _, h => by simp at h
  | a :: r, k, m, h => by
    rw [List.idxOf_cons] at h
    by_cases e : a = k
    · subst e; simp at h
    · have e' : (a == k) = false := beq_eq_false_iff_ne.mpr e
      rw [e'] at h
      simp only [cond_false] at h
      cases m with
      | zero => simpa using e
      | succ m =>
        rw [List.getElem?_cons_succ]
        exact idxOf_first r k m (by omega)
section
variable {X : Cx}
theorem ow_append : MtR X "list.append" (rMD (wd X) appendM) := by
  intro pins s σ H x vs v us Q I rx rv h
  obtain ⟨as, S, d, ds, sr, r1, r2, w⟩ := h
  unfold appendM at w
  split at w
  · obtain ⟨a, ea, rfl⟩ := r1
    obtain ⟨y, rfl, ry⟩ := DVRs.one r2
    split at w
    · rename_i xs e
      split at w
      · rename_i hz
        obtain ⟨b, ws, eb, z, hb, t⟩ := sr.at e
        rw [ea] at eb; cases eb
        have hl := t.length
        have hs : sizeLine = 16777216 := by decide
        have z2 : (ws ++ [y]).length ≤ sizeLine := by rw [List.length_append, List.length_singleton]; omega
        exact mt_append pins s σ H _ _ v us Q I rx rv ⟨_, _, _, rfl, rfl, hb, by omega, w as _ _ (ext_write sr ea) (sr.write ea z2 (t.append (.cons ry .nil))) .non⟩
      · exact w.elim
    · exact w.elim
  · obtain ⟨a, ea, rfl⟩ := r1
    obtain ⟨y, rfl, ry⟩ := DVRs.one r2
    split at w
    · rename_i ks e
      split at w
      · rename_i hz
        obtain ⟨b, ws, eb, z, hb, t⟩ := sr.atN e
        rw [ea] at eb; cases eb
        have hl := t.length
        have hs : sizeLine = 16777216 := by decide
        have z2 : (ws ++ [y]).length ≤ sizeLine := by rw [List.length_append, List.length_singleton]; omega
        exact mt_append pins s σ H _ _ v us Q I rx rv ⟨_, _, _, rfl, rfl, hb, by omega, w as _ _ (ext_write sr ea) (sr.writeNest ea z2 (t.append (.cons ry .nil))) .non⟩
      · exact w.elim
    · exact w.elim
  · exact w.elim
theorem ow_pop : MtR X "list.pop" (rMD (wd X) popM) := by
  intro pins s σ H x vs v us Q I rx rv h
  obtain ⟨as, S, d, ds, sr, r1, r2, w⟩ := h
  unfold popM at w
  split at w
  · obtain ⟨a, ea, rfl⟩ := r1
    cases r2
    split at w
    · rename_i xs e
      split at w
      · rename_i y ey
        obtain ⟨b, ws, eb, z, hb, t⟩ := sr.at e
        rw [ea] at eb; cases eb
        obtain ⟨yv, e2, r3⟩ := t.get ey
        rw [← t.length] at e2
        have z2 : ws.dropLast.length ≤ sizeLine := by rw [List.length_dropLast]; omega
        have x := ext_write (o := .lst ws.dropLast) sr ea
        exact mt_pop pins s σ H _ _ v us Q I rx rv ⟨_, _, _, rfl, rfl, hb, e2, w as _ _ x (sr.write ea z2 t.dropLast) (PR.mono x.w r3)⟩
      · exact w.elim
    · exact w.elim
  · obtain ⟨a, ea, rfl⟩ := r1
    obtain ⟨y, rfl, ry⟩ := DVRs.one r2
    cases ry
    rename_i i
    split at w
    · rename_i xs e
      split at w
      · rename_i hi
        split at w
        · rename_i y ey
          obtain ⟨b, ws, eb, z, hb, t⟩ := sr.at e
          rw [ea] at eb; cases eb
          obtain ⟨yv, e2, r3⟩ := t.get ey
          have hlt := (List.getElem?_eq_some_iff.mp e2).1
          have x := ext_write (o := .lst (ws.eraseIdx i.toNat)) sr ea
          exact mt_popAt pins s σ H _ _ v us Q I rx rv ⟨_, _, _, _, _, rfl, rfl, hb, by omega, by omega, seqIndex_of hi.1 (by omega), e2, w as _ _ x (sr.write ea (Nat.le_trans (L2.len_erase _ _) z) (t.eraseIdx _)) (PR.mono x.w r3)⟩
        · exact w.elim
      · exact w.elim
    · exact w.elim
  · exact w.elim
theorem ow_remove : MtR X "list.remove" (rMD (wd X) remM) := by
  intro pins s σ H x vs v us Q I rx rv h
  obtain ⟨as, S, d, ds, sr, r1, r2, w⟩ := h
  unfold remM at w
  split at w
  · obtain ⟨a, ea, rfl⟩ := r1
    obtain ⟨y, rfl, ry⟩ := DVRs.one r2
    cases ry
    rename_i k
    split at w
    · rename_i xs e
      split at w
      · rename_i ns en
        split at w
        · rename_i hk
          obtain ⟨b, ws, eb, z, hb, t⟩ := sr.at e
          rw [ea] at eb; cases eb
          rw [intsOf_ok en] at t
          rw [t.ints] at hb z
          have hlt := List.idxOf_lt_length_iff.mpr hk
          have e1 : ns[ns.idxOf k]? = some k := by
            rw [List.getElem?_eq_getElem hlt, List.getElem_idxOf hlt]
          rw [List.erase_eq_eraseIdx_of_idxOf rfl] at w
          refine mt_remove pins s σ H _ _ v us Q I rx rv ⟨_, ns, _, _, rfl, rfl, hb, e1, fun m hm q => ?_, w as _ _ (ext_write sr ea) (sr.write ea ?_ (PRs.of_ints _)) .non⟩
          · exact idxOf_first ns k m hm q
          · rw [List.length_map] at z ⊢
            exact Nat.le_trans (L2.len_erase _ _) z
        · exact w.elim
      · exact w.elim
    · exact w.elim
  · exact w.elim
theorem ow_count : MtR X "list.count" (rMD (wd X) cntM) := by
  intro pins s σ H x vs v us Q I rx rv h
  obtain ⟨as, S, d, ds, sr, r1, r2, w⟩ := h
  unfold cntM at w
  split at w
  · obtain ⟨y, rfl, ry⟩ := DVRs.one r2
    cases ry
    split at w
    · rename_i ns e
      simp only [Option.bind_eq_some_iff] at e
      obtain ⟨xs, e1, e2⟩ := e
      obtain ⟨a, ws, rfl, z, q, t⟩ := litems_sq sr r1 e1
      rw [intsOf_ok e2] at t
      rw [t.ints] at q
      exact mt_lcount pins s σ H _ _ v us Q I rx rv ⟨_, ns, _, rfl, rfl, q, w.here sr (.int _)⟩
    · exact w.elim
  · exact w.elim
end
end
end DL
namespace DL
noncomputable section
open PySem PySem.Spec PyProof.Rows L2

abbrev ltO : Op2 := cmpO fun i j => decide (i < j)
abbrev leO : Op2 := cmpO fun i j => decide (i ≤ j)
abbrev gtO : Op2 := cmpO fun i j => decide (j < i)
abbrev geO : Op2 := cmpO fun i j => decide (j ≤ i)
theorem b_len : bootBuiltins "len" = some (.builtin "len") := by decide +kernel
theorem b_abs : bootBuiltins "abs" = some (.builtin "abs") := by decide +kernel
theorem b_sum : bootBuiltins "sum" = some (.builtin "sum") := by decide +kernel
theorem b_all : bootBuiltins "all" = some (.builtin "all") := by decide +kernel
theorem b_any : bootBuiltins "any" = some (.builtin "any") := by decide +kernel
theorem b_min : bootBuiltins "min" = some (.builtin "min") := by decide +kernel
theorem b_max : bootBuiltins "max" = some (.builtin "max") := by decide +kernel
theorem b_sorted : bootBuiltins "sorted" = some (.builtin "sorted") := by decide +kernel
theorem b_int : bootBuiltins "int" = some (.type "int") := by decide +kernel
theorem b_bool : bootBuiltins "bool" = some (.type "bool") := by decide +kernel
theorem b_str : bootBuiltins "str" = some (.type "str") := by decide +kernel
theorem b_tuple : bootBuiltins "tuple" = some (.type "tuple") := by decide +kernel
theorem b_list : bootBuiltins "list" = some (.type "list") := by decide +kernel
section
variable {P : Program} {w : World} {K : PySem.W.Frag} {mg : Str → Option Value} {base : Heap} {CX : CXT}
theorem fn_bad {k : Nat} {f : Addr} {fd : FuncData} {ps : List Str} {B : Wd} : FnOk P w K mg base CX k f fd ps (spD B fun _ _ => .bad) := by
  have no : ∀ vs H Q E, ¬ spD B (fun _ _ => .bad) vs H Q E := fun vs H Q E ⟨_, _, _, _, _, h⟩ => h
  exact ⟨fun vs H Q E h => absurd h (no vs H Q E), fun A outer s H args us vs Q E _ _ _ _ h => absurd h (no vs H Q E)⟩
end
/-- what the law's def is to promise -/
def spLawD (K : PySem.W.Frag) : Sp := fun vs H Q E => ∃ (a : Addr) (ns : List Int), vs = [.ref a] ∧ Only H ∧ SqL K H a (ns.map V.int) ∧ ns.length ≤ 63 ∧ ∀ H', Q (.bl true) H'
theorem law_end {K : PySem.W.Frag} {mg : Str → Option Value} {F : List DV → AH → Res DV} (ht : ∀ ns : List Int, ns.length ≤ 63 → ∃ S, F [.p (.fro (ns.map PV.int))] [] = .ok (.p (.bl true)) S)
    {vs : List V} {H : Hp} {Q : VK} {E : XK} (h : spLawD K vs H Q E) : spD ⟨K, mg⟩ F vs H Q E := by
  obtain ⟨a, ns, rfl, hO, hS, h63, q⟩ := h
  obtain ⟨S, e⟩ := ht ns h63
  have z : (ns.map V.int).length ≤ sizeLine := by rw [List.length_map]; exact Nat.le_trans h63 (by decide)
  have r : RdF K ⟨[], fun _ => False⟩ H a (ns.map V.int) := by
    refine ⟨z, ?_⟩
    rcases hS with (hS | ⟨o, hS⟩) | hS
    · rcases hO a with n | ⟨o, xs, n⟩
      · rw [n] at hS; cases hS
      · rw [n] at hS; cases hS
    · exact .inl ⟨⟨o, hS⟩, (by simp), fun z => z⟩
    · exact .inr hS
  refine ⟨⟨[], fun _ => False⟩, [.p (.fro (ns.map PV.int))], [], ⟨rfl, List.nodup_nil, (fun _ _ z => z), (fun _ z => z.elim), fun i a c e1 _ => by simp at e1⟩, .cons (.fro (M := ⟨K, mg⟩) r (PRs.of_ints ns)) .nil, ?_⟩
  rw [e]
  intro as' H' b x s rr
  cases rr
  exact q H'
theorem walkD {l : PySem.W.OpenLaw} {k : Nat} {q : Program} {loose : List Str} {XP : (Str → Option Value) → Heap → Prop} {YP : World → Heap → Prop} {d : DefRec} {K : Params → PySem.W.Frag} (hn : l.most = some 63) (hdf : d.params.defaults = []) (hr : Room k callerA)
    (hY : ∀ (w : World) (h : Heap), YP w h → (K w.params).In h)
    (F : ∀ (w : World) (mg : Str → Option Value) (fa : Addr) (h : Heap), (K w.params).In h → h.Ns mainGlobals mg → mg d.name = some (.ref fa) →
      ∃ fd : FuncData, (∀ (s : Shared) (u : Value), BindsTo s fd ⟨[u], []⟩ [("script", u)]) ∧ ∀ base : Heap, FnOk l.prog w (K w.params) mg base (L2.CX l.prog w) k fa fd ["script"] (spLawD (K w.params))) :
    PySem.W.WalkO q loose XP YP l.row.toRowW d [] (fun f vs => PySem.call f vs) :=
  L2.walk_of (n := 63) (k := k) (x := "script") (CX := fun w => L2.CX l.prog w) (sp := fun w => spLawD (K w.params)) hn (by decide) hdf hr hY
    (fun w mg fa h KX G hm => let ⟨fd, hb, hF⟩ := F w mg fa h KX G hm; ⟨fd, hb, fun base _ _ => hF base⟩)
    (fun w H a ns hl hO hS => ⟨a, ns, rfl, hO, hS, hl, fun _ => rfl⟩)
    fun w H s e s' h => by
      obtain ⟨_, _, _, _, _, _, _, _, _, _, _, _, z⟩ := h
      exact z
/-- a class is caught by its own name -/
theorem sub_ok {K : PySem.W.Frag} {C : Addr} {x n : Str} {b : Bool} {cls : Value} {mg : Str → Option Value} (i : PySem.W.isClsIn K C = true) (t : PySem.W.typeIn K (.ref C) = some (.type "type")) (bb : PySem.W.subIn K (.ref C) (.type "BaseException") = some true) (s : PySem.W.subIn K (.ref C) (.ref C) = some true)
    (m : mg x = some (.ref C)) (hs : (if n = x then some true else none) = some b) (hm : mg n = some cls) : PySem.W.exmOne K cls (.ref C) = some b := by
  split at hs
  · rename_i e
    subst e
    cases hs
    rw [m] at hm
    cases hm
    have k1 : (PySem.W.subIn K (.ref C) (.type "BaseException") == some true) = true := by rw [bb] <;> rfl
    have k3 : (PySem.W.clsIn K C).isSome = true := i
    have k2 : ((PySem.W.clsIn K C).isSome && PySem.W.typeIn K (.ref C) == some (.type "type")) = true := by rw [k3, t] <;> rfl
    unfold PySem.W.exmOne PySem.W.kitCls
    simp only [k1, k2, if_true, s]
  · cases hs
end
end DL
namespace DL
noncomputable section
open PySem L2

/-! ### evaluation by simp: continuations as constants, so that nothing is looked at ahead of its turn -/
section
variable {α : Type} {δ : Sig} {S : AH} {fa fb fc : Sig → AH → Res DV} {ga gb : Sig → AH → Res Bool} {fs : Sig → AH → Res (List DV)} {fl : Sig → AH → Res (List PV)} {f g : Sig → AH → Out}
def vget (o : Option (Option DV)) (S : AH) : Res DV := match o with
  | some (some d) => .ok d S
  | _ => .bad
@[simp] theorem vget_some {d : DV} : vget (some (some d)) S = .ok d S := (rfl)
@[simp] theorem ev_var {i : Nat} : dVar i δ S = vget δ[i]? S := by
  unfold dVar vget
  rfl
@[simp] theorem ev_con {v : PV} : dC v δ S = .ok (.p v) S := (rfl)
def kUn (o : Op1) (a : DV) (S : AH) : Res DV := lift (o a S)
@[simp] theorem ev_un {o : Op1} : dUn o fa δ S = (fa δ S).bind (kUn o) := (rfl)
@[simp] theorem ev_kUn {o : Op1} {a : DV} : kUn o a S = lift (o a S) := (rfl)
def kBin (o : Op2) (fb : Sig → AH → Res DV) (δ : Sig) (a : DV) (S : AH) : Res DV := (fb δ S).bind fun b S => lift (o a b S)
def kBin2 (o : Op2) (a b : DV) (S : AH) : Res DV := lift (o a b S)
@[simp] theorem ev_bin {o : Op2} : dBin o fa fb δ S = (fa δ S).bind (kBin o fb δ) := (rfl)
@[simp] theorem ev_kBin {o : Op2} {a : DV} : kBin o fb δ a S = (fb δ S).bind (kBin2 o a) := (rfl)
@[simp] theorem ev_kBin2 {o : Op2} {a b : DV} : kBin2 o a b S = lift (o a b S) := (rfl)
@[simp] theorem ev_nil : dNil δ S = .ok [] S := (rfl)
def kCons (fr : Sig → AH → Res (List DV)) (δ : Sig) (a : DV) (S : AH) : Res (List DV) := (fr δ S).bind fun r S => .ok (a :: r) S
def kCons2 (a : DV) (r : List DV) (S : AH) : Res (List DV) := .ok (a :: r) S
@[simp] theorem ev_cons : dCons fa fs δ S = (fa δ S).bind (kCons fs δ) := (rfl)
@[simp] theorem ev_kCons {a : DV} : kCons fs δ a S = (fs δ S).bind (kCons2 a) := (rfl)
@[simp] theorem ev_kCons2 {a : DV} {r : List DV} : kCons2 a r S = .ok (a :: r) S := (rfl)
def kApp (o : OpN) (ds : List DV) (S : AH) : Res DV := lift (o ds S)
@[simp] theorem ev_app {o : OpN} : dApp o fs δ S = (fs δ S).bind (kApp o) := (rfl)
@[simp] theorem ev_kApp {o : OpN} {ds : List DV} : kApp o ds S = lift (o ds S) := (rfl)
def kTru (a : DV) (S : AH) : Res Bool := lift ((truD a S).map fun k => (k, S))
@[simp] theorem ev_tru : dTru fa δ S = (fa δ S).bind kTru := (rfl)
@[simp] theorem ev_kTru_bl {b : Bool} : kTru (.p (.bl b)) S = .ok b S := (rfl)
@[simp] theorem ev_kTru_int {i : Int} : kTru (.p (.int i)) S = .ok (i != 0) S := (rfl)
@[simp] theorem ev_kTru_non : kTru (.p .non) S = .ok false S := (rfl)
def kNot (a : Bool) (S : AH) : Res Bool := .ok (!a) S
@[simp] theorem ev_not : dNot ga δ S = (ga δ S).bind kNot := (rfl)
@[simp] theorem ev_kNot {a : Bool} : kNot a S = .ok (!a) S := (rfl)
def kAnd (gb : Sig → AH → Res Bool) (δ : Sig) (a : Bool) (S : AH) : Res Bool := if a = true then gb δ S else .ok false S
def kOr (gb : Sig → AH → Res Bool) (δ : Sig) (a : Bool) (S : AH) : Res Bool := if a = true then .ok true S else gb δ S
@[simp] theorem ev_and : dAnd ga gb δ S = (ga δ S).bind (kAnd gb δ) := (rfl)
@[simp] theorem ev_or : dOr ga gb δ S = (ga δ S).bind (kOr gb δ) := (rfl)
@[simp] theorem ev_kAnd_t : kAnd gb δ true S = gb δ S := (rfl)
@[simp] theorem ev_kAnd_f : kAnd gb δ false S = .ok false S := (rfl)
@[simp] theorem ev_kOr_t : kOr gb δ true S = .ok true S := (rfl)
@[simp] theorem ev_kOr_f : kOr gb δ false S = gb δ S := (rfl)
def kAndV (fb : Sig → AH → Res DV) (δ : Sig) (a : DV) (S : AH) : Res DV := match truD a S with
  | some k => if k = true then fb δ S else .ok a S
  | none => .bad
def kOrV (fb : Sig → AH → Res DV) (δ : Sig) (a : DV) (S : AH) : Res DV := match truD a S with
  | some k => if k = true then .ok a S else fb δ S
  | none => .bad
@[simp] theorem ev_andV : dAndV fa fb δ S = (fa δ S).bind (kAndV fb δ) := (rfl)
@[simp] theorem ev_orV : dOrV fa fb δ S = (fa δ S).bind (kOrV fb δ) := (rfl)
@[simp] theorem ev_kAndV_t : kAndV fb δ (.p (.bl true)) S = fb δ S := (rfl)
@[simp] theorem ev_kAndV_f : kAndV fb δ (.p (.bl false)) S = .ok (.p (.bl false)) S := (rfl)
@[simp] theorem ev_kOrV_t : kOrV fb δ (.p (.bl true)) S = .ok (.p (.bl true)) S := (rfl)
@[simp] theorem ev_kOrV_f : kOrV fb δ (.p (.bl false)) S = fb δ S := (rfl)
def kNotV (a : DV) (S : AH) : Res DV := lift ((truD a S).map fun k => (.p (.bl (!k)), S))
@[simp] theorem ev_notV : dNotV fa δ S = (fa δ S).bind kNotV := (rfl)
@[simp] theorem ev_kNotV {b : Bool} : kNotV (.p (.bl b)) S = .ok (.p (.bl (!b))) S := (rfl)
def kIte (fa fb : Sig → AH → Res DV) (δ : Sig) (c : Bool) (S : AH) : Res DV := if c = true then fa δ S else fb δ S
@[simp] theorem ev_ite : dIte ga fa fb δ S = (ga δ S).bind (kIte fa fb δ) := (rfl)
@[simp] theorem ev_kIte_t : kIte fa fb δ true S = fa δ S := (rfl)
@[simp] theorem ev_kIte_f : kIte fa fb δ false S = fb δ S := (rfl)
def kCh3 (o' : Op2) (b c : DV) (S : AH) : Res DV := lift (o' b c S)
def kCh2 (o' : Op2) (fc : Sig → AH → Res DV) (δ : Sig) (b k : DV) (S : AH) : Res DV := match k with
  | .p (.bl true) => (fc δ S).bind (kCh3 o' b)
  | .p (.bl false) => .ok (.p (.bl false)) S
  | _ => .bad
def kCh1 (o o' : Op2) (fc : Sig → AH → Res DV) (δ : Sig) (a b : DV) (S : AH) : Res DV := (lift (o a b S)).bind (kCh2 o' fc δ b)
def kCh (o o' : Op2) (fb fc : Sig → AH → Res DV) (δ : Sig) (a : DV) (S : AH) : Res DV := (fb δ S).bind (kCh1 o o' fc δ a)
@[simp] theorem ev_chain {o o' : Op2} : dChain o o' fa fb fc δ S = (fa δ S).bind (kCh o o' fb fc δ) := (rfl)
@[simp] theorem ev_kCh {o o' : Op2} {a : DV} : kCh o o' fb fc δ a S = (fb δ S).bind (kCh1 o o' fc δ a) := (rfl)
@[simp] theorem ev_kCh1 {o o' : Op2} {a b : DV} : kCh1 o o' fc δ a b S = (lift (o a b S)).bind (kCh2 o' fc δ b) := (rfl)
@[simp] theorem ev_kCh2_t {o' : Op2} {b : DV} : kCh2 o' fc δ b (.p (.bl true)) S = (fc δ S).bind (kCh3 o' b) := (rfl)
@[simp] theorem ev_kCh2_f {o' : Op2} {b : DV} : kCh2 o' fc δ b (.p (.bl false)) S = .ok (.p (.bl false)) S := (rfl)
@[simp] theorem ev_kCh3 {o' : Op2} {b c : DV} : kCh3 o' b c S = lift (o' b c S) := (rfl)
def kBl (a : DV) (S : AH) : Res Bool := match a with
  | .p (.bl k) => .ok k S
  | _ => .bad
@[simp] theorem ev_blOf : blOf fa δ S = (fa δ S).bind kBl := (rfl)
@[simp] theorem ev_kBl {b : Bool} : kBl (.p (.bl b)) S = .ok b S := (rfl)
def kTup (ds : List DV) (S : AH) : Res DV := match pvs ds with
  | some ps => if ps.length ≤ 1000 then .ok (.p (.tup ps)) S else .bad
  | none => .bad
@[simp] theorem ev_tup : dTup fs δ S = (fs δ S).bind DL.kTup := (rfl)
def kLst (ds : List DV) (S : AH) : Res (List PV) := match pvs ds with
  | some ps => if ps.length ≤ 1000 then .ok ps S else .bad
  | none => .bad
@[simp] theorem ev_lst : dLst fs δ S = (fs δ S).bind kLst := (rfl)
def kVal (ps : List PV) (S : AH) : Res DV := .ok (.p (.lst ps)) S
@[simp] theorem ev_val : dVal fl δ S = (fl δ S).bind kVal := (rfl)
@[simp] theorem ev_kVal {ps : List PV} : kVal ps S = .ok (.p (.lst ps)) S := (rfl)
def kCell (ps : List PV) (S : AH) : Res DV := .ok (.c S.length) (S ++ [.lst ps])
@[simp] theorem ev_cell : dCell fl δ S = (fl δ S).bind kCell := (rfl)
@[simp] theorem ev_kCell {ps : List PV} : kCell ps S = .ok (.c S.length) (S ++ [.lst ps]) := (rfl)
@[simp] theorem ev_noPart : dNoPart δ S = .ok none S := (rfl)
def kPart (a : DV) (S : AH) : Res (Option Int) := match a with
  | .p (.int i) => .ok (some i) S
  | _ => .bad
@[simp] theorem ev_part : dPart fa δ S = (fa δ S).bind kPart := (rfl)
@[simp] theorem ev_kPart {i : Int} : kPart (.p (.int i)) S = .ok (some i) S := (rfl)
def kSl3 (a : DV) (l h : Option Int) (S : AH) : Res DV := lift (slO a l h S)
def kSl2 (fh : Sig → AH → Res (Option Int)) (δ : Sig) (a : DV) (l : Option Int) (S : AH) : Res DV := (fh δ S).bind (kSl3 a l)
def kSl (fl fh : Sig → AH → Res (Option Int)) (δ : Sig) (a : DV) (S : AH) : Res DV := (fl δ S).bind (kSl2 fh δ a)
@[simp] theorem ev_sl {fl fh : Sig → AH → Res (Option Int)} : dSl fa fl fh δ S = (fa δ S).bind (kSl fl fh δ) := (rfl)
@[simp] theorem ev_kSl {fl fh : Sig → AH → Res (Option Int)} {a : DV} : kSl fl fh δ a S = (fl δ S).bind (kSl2 fh δ a) := (rfl)
@[simp] theorem ev_kSl2 {fh : Sig → AH → Res (Option Int)} {a : DV} {l : Option Int} : kSl2 fh δ a l S = (fh δ S).bind (kSl3 a l) := (rfl)
@[simp] theorem ev_kSl3 {a : DV} {l h : Option Int} : kSl3 a l h S = lift (slO a l h S) := (rfl)
def kAppF (o : OpF) (ds : List DV) (S : AH) : Res (List PV) := match o ds S with
  | some ps => .ok ps S
  | none => .bad
@[simp] theorem ev_appF {o : OpF} : dAppF o fs δ S = (fs δ S).bind (kAppF o) := (rfl)
def kIsi (T : String) (a : DV) (S : AH) : Res DV := match tyName a S with
  | some t => .ok (.p (.bl (isTy t T))) S
  | none => .bad
@[simp] theorem ev_isi {T : String} : dIsi T fa δ S = (fa δ S).bind (kIsi T) := (rfl)
def kIsiT (Ts : List String) (a : DV) (S : AH) : Res DV := match tyName a S with
  | some t => .ok (.p (.bl (Ts.any fun T => isTy t T))) S
  | none => .bad
@[simp] theorem ev_isiT {Ts : List String} : dIsiT Ts fa δ S = (fa δ S).bind (kIsiT Ts) := (rfl)
@[simp] theorem ev_call {F : List DV → AH → Res DV} : dCall F fs δ S = (fs δ S).bind F := (rfl)
def kMeth2 (o : OpM) (d : DV) (ds : List DV) (S : AH) : Res DV := lift (o d ds S)
def kMeth (o : OpM) (fs : Sig → AH → Res (List DV)) (δ : Sig) (d : DV) (S : AH) : Res DV := if isLst d S = true then (fs δ S).bind (kMeth2 o d) else .bad
@[simp] theorem ev_meth {o : OpM} : dMeth o fa fs δ S = (fa δ S).bind (kMeth o fs δ) := (rfl)
@[simp] theorem ev_kMeth2 {o : OpM} {d : DV} {ds : List DV} : kMeth2 o d ds S = lift (o d ds S) := (rfl)
theorem ev_kMeth {o : OpM} {d : DV} {xs : List PV} (h : litems d S = some xs) : kMeth o fs δ d S = (fs δ S).bind (kMeth2 o d) := by unfold kMeth isLst; rw [h]; rfl
theorem ev_kMethN {o : OpM} {d : DV} {ks : List Nat} (h : nitems d S = some ks) : kMeth o fs δ d S = (fs δ S).bind (kMeth2 o d) := by unfold kMeth isLst; rw [h, Option.isSome_some, Bool.or_true, if_pos rfl]
def kMeth0 (o : OpM) (d : DV) (S : AH) : Res DV := if isLst d S = true then lift (o d [] S) else .bad
@[simp] theorem ev_meth0 {o : OpM} : dMeth0 o fa δ S = (fa δ S).bind (kMeth0 o) := (rfl)
theorem ev_kMeth0 {o : OpM} {d : DV} {xs : List PV} (h : litems d S = some xs) : kMeth0 o d S = lift (o d [] S) := by unfold kMeth0 isLst; rw [h]; rfl
/- statements -/
def Out.seq (o : Out) (g : Sig → AH → Out) : Out := match o with
  | .nx δ S => g δ S
  | o => o
@[simp] theorem ev_seq : dSeq f g δ S = (f δ S).seq g := by
  unfold dSeq Out.seq
  rfl
@[simp] theorem seq_nx : (Out.nx δ S).seq g = g δ S := (rfl)
@[simp] theorem seq_rt {d : DV} : (Out.rt d S).seq g = .rt d S := (rfl)
@[simp] theorem seq_exc {c : Str} {p : List (Str × PV)} : (Out.exc c p δ S).seq g = .exc c p δ S := (rfl)
@[simp] theorem seq_bad : Out.bad.seq g = .bad := (rfl)
@[simp] theorem seq_bk : (Out.bk δ S).seq g = .bk δ S := (rfl)
@[simp] theorem seq_ct : (Out.ct δ S).seq g = .ct δ S := (rfl)
@[simp] theorem ev_pass : dPass δ S = .nx δ S := (rfl)
@[simp] theorem ev_break : dBreak δ S = .bk δ S := (rfl)
@[simp] theorem ev_cont : dCont δ S = .ct δ S := (rfl)
@[simp] theorem ev_never : dNever δ S = .bad := (rfl)
@[simp] theorem ev_raise {c : Str} : dRaise c δ S = .exc c [] δ S := (rfl)
def jDrop (δ : Sig) (_ : DV) (S : AH) : Out := .nx δ S
@[simp] theorem ev_drop : dDrop fa δ S = (fa δ S).out δ (jDrop δ) := (rfl)
@[simp] theorem ev_jDrop {d : DV} : jDrop δ d S = .nx δ S := (rfl)
def jRet (d : DV) (S : AH) : Out := .rt d S
@[simp] theorem ev_ret : dRet fa δ S = (fa δ S).out δ jRet := (rfl)
@[simp] theorem ev_jRet {d : DV} : jRet d S = .rt d S := (rfl)
@[simp] theorem ev_retN : dRetN δ S = .rt (.p .non) S := (rfl)
def jSet (i : Nat) (δ : Sig) (d : DV) (S : AH) : Out := .nx (δ.set i (some d)) S
@[simp] theorem ev_set {i : Nat} : dSet i fa δ S = (fa δ S).out δ (jSet i δ) := (rfl)
@[simp] theorem ev_jSet {i : Nat} {d : DV} : jSet i δ d S = .nx (δ.set i (some d)) S := (rfl)
@[simp] theorem ev_setF {i : Nat} : dSetF i fl δ S = (dVal fl δ S).out δ (jSet i δ) := (rfl)
@[simp] theorem ev_setC {i : Nat} : dSetC i fl δ S = (dCell fl δ S).out δ (jSet i δ) := (rfl)
def jAsg (q : Pat) (δ : Sig) (d : DV) (S : AH) : Out := match d with
  | .p x => match q.set (.p x) δ with
    | some δ' => .nx δ' S
    | none => .bad
  | .c _ => .bad
@[simp] theorem ev_asg {q : Pat} : dAsg q fa δ S = (fa δ S).out δ (jAsg q δ) := (rfl)
theorem ev_jAsg {q : Pat} {x : PV} {δ' : Sig} (h : q.set (.p x) δ = some δ') : jAsg q δ (.p x) S = .nx δ' S := by unfold jAsg; simp only [h]
def jIf (f g : Sig → AH → Out) (δ : Sig) (b : Bool) (S : AH) : Out := if b = true then f δ S else g δ S
@[simp] theorem ev_if : dIf ga f g δ S = (ga δ S).out δ (jIf f g δ) := (rfl)
@[simp] theorem ev_jIf_t : jIf f g δ true S = f δ S := (rfl)
@[simp] theorem ev_jIf_f : jIf f g δ false S = g δ S := (rfl)
def jPar (i j : Nat) (δ : Sig) (ds : List DV) (S : AH) : Out := match ds with
  | [d, e] => .nx ((δ.set i (some d)).set j (some e)) S
  | _ => .bad
@[simp] theorem ev_par {i j : Nat} : dPar i j fs δ S = (fs δ S).out δ (jPar i j δ) := (rfl)
@[simp] theorem ev_jPar {i j : Nat} {d e : DV} : jPar i j δ [d, e] S = .nx ((δ.set i (some d)).set j (some e)) S := (rfl)
def jSub3 (o v i : DV) (δ : Sig) (S : AH) : Out := match setIx o i v S with
  | some S' => .nx δ S'
  | none => .bad
def jSub2 (o v : DV) (δ : Sig) (i : DV) (S : AH) : Out := jSub3 o v i δ S
def jSub1 (fi : Sig → AH → Res DV) (v : DV) (δ : Sig) (o : DV) (S : AH) : Out := (fi δ S).out δ (jSub2 o v δ)
def jSub (fo fi : Sig → AH → Res DV) (δ : Sig) (v : DV) (S : AH) : Out := (fo δ S).out δ (jSub1 fi v δ)
@[simp] theorem ev_sub {fo fi : Sig → AH → Res DV} : dSub fa fo fi δ S = (fa δ S).out δ (jSub fo fi δ) := (rfl)
@[simp] theorem ev_jSub {fo fi : Sig → AH → Res DV} {v : DV} : jSub fo fi δ v S = (fo δ S).out δ (jSub1 fi v δ) := (rfl)
@[simp] theorem ev_jSub1 {fi : Sig → AH → Res DV} {v o : DV} : jSub1 fi v δ o S = (fi δ S).out δ (jSub2 o v δ) := (rfl)
@[simp] theorem ev_jSub2 {v o i : DV} : jSub2 o v δ i S = jSub3 o v i δ S := (rfl)
theorem ev_jSub3 {v o i : DV} {S' : AH} (h : setIx o i v S = some S') : jSub3 o v i δ S = .nx δ S' := by unfold jSub3; rw [h]
def jAug2 (i : Nat) (δ : Sig) (d : DV) (S : AH) : Out := .nx (δ.set i (some d)) S
def jAug (i : Nat) (o : Op2) (a : DV) (δ : Sig) (b : DV) (S : AH) : Out := (lift (o a b S)).out δ (jAug2 i δ)
def augOf (i : Nat) (o : Op2) (fa : Sig → AH → Res DV) (δ : Sig) (a : Option (Option DV)) (S : AH) : Out := match a with
  | some (some a) => (fa δ S).out δ (jAug i o a δ)
  | _ => .bad
@[simp] theorem ev_aug {i : Nat} {o : Op2} : dAug i o fa δ S = augOf i o fa δ δ[i]? S := by
  unfold dAug augOf
  rfl
@[simp] theorem ev_augOf {i : Nat} {o : Op2} {a : DV} : augOf i o fa δ (some (some a)) S = (fa δ S).out δ (jAug i o a δ) := (rfl)
@[simp] theorem ev_jAug {i : Nat} {o : Op2} {a b : DV} : jAug i o a δ b S = (lift (o a b S)).out δ (jAug2 i δ) := (rfl)
@[simp] theorem ev_jAug2 {i : Nat} {d : DV} : jAug2 i δ d S = .nx (δ.set i (some d)) S := (rfl)
end
/- values -/
@[simp] theorem addO_int {i j : Int} {S : AH} : addO (.p (.int i)) (.p (.int j)) S = some (.p (.int (i + j)), S) := (rfl)
@[simp] theorem subO_int {i j : Int} {S : AH} : subO (.p (.int i)) (.p (.int j)) S = some (.p (.int (i - j)), S) := (rfl)
@[simp] theorem negO_int {i : Int} {S : AH} : negO (.p (.int i)) S = some (.p (.int (-i)), S) := (rfl)
theorem mulO_int {i j : Int} {S : AH} (h : mulOk i j) : mulO (.p (.int i)) (.p (.int j)) S = some (.p (.int (i * j)), S) := by
  show (if mulOk i j then _ else _) = _
  rw [if_pos h]
theorem mulOk_r {i j : Int} (h : -(2 ^ 64) < j ∧ j < 2 ^ 64) : mulOk i j := .inl (.inr h)
theorem mulOk_l {i j : Int} (h : -(2 ^ 64) < i ∧ i < 2 ^ 64) : mulOk i j := .inl (.inl h)
theorem divO_int {i j : Int} {S : AH} (h : divOk j) : divO (.p (.int i)) (.p (.int j)) S = some (.p (.int (i / j)), S) := by
  show (if divOk j then _ else _) = _
  rw [if_pos h]
theorem divOk_of {j : Int} (h : 0 < j) (h2 : j < 2 ^ 64) : divOk j := by
  refine ⟨h, ?_⟩
  have : j.natAbs.log2 < 64 := (Nat.log2_lt (by omega)).mpr (by omega)
  omega
theorem modO_int {i j : Int} {S : AH} (h : 0 < j) : modO (.p (.int i)) (.p (.int j)) S = some (.p (.int (i % j)), S) := by
  show (if 0 < j then _ else _) = _
  rw [if_pos h]
theorem powO_int {i j : Int} {S : AH} (h : powOk i j) : powO (.p (.int i)) (.p (.int j)) S = some (.p (.int (i ^ j.toNat)), S) := by
  show (if powOk i j then _ else _) = _
  rw [if_pos h]
@[simp] theorem cmpO_int {p : Int → Int → Bool} {i j : Int} {S : AH} : cmpO p (.p (.int i)) (.p (.int j)) S = some (.p (.bl (p i j)), S) := (rfl)
theorem addO_tup {xs ys : List PV} {S : AH} (h : xs.length + ys.length ≤ 16777216) : addO (.p (.tup xs)) (.p (.tup ys)) S = some (.p (.tup (xs ++ ys)), S) := by
  show (if xs.length + ys.length ≤ sizeLine then _ else _) = _
  rw [if_pos (by rw [show sizeLine = 16777216 by decide]; exact h)]
@[simp] theorem intO_int {i : Int} {S : AH} : intO [.p (.int i)] S = some (.p (.int i), S) := (rfl)
@[simp] theorem intO_bl {b : Bool} {S : AH} : intO [.p (.bl b)] S = some (.p (.int (if b then 1 else 0)), S) := (rfl)
@[simp] theorem absO_int {i : Int} {S : AH} : absO [.p (.int i)] S = some (.p (.int (if i < 0 then -i else i)), S) := (rfl)
@[simp] theorem lenO_tup {xs : List PV} {S : AH} : lenO [.p (.tup xs)] S = some (.p (.int xs.length), S) := (rfl)
@[simp] theorem lenO_lst {xs : List PV} {S : AH} : lenO [.p (.lst xs)] S = some (.p (.int xs.length), S) := (rfl)
@[simp] theorem lenO_fro {xs : List PV} {S : AH} : lenO [.p (.fro xs)] S = some (.p (.int xs.length), S) := (rfl)
theorem lenO_c {n : Nat} {xs : List PV} {S : AH} (h : S[n]? = some (.lst xs)) : lenO [.c n] S = some (.p (.int xs.length), S) := by
  unfold lenO items
  simp only [h]
@[simp] theorem minO_int {i j : Int} {S : AH} : minO [.p (.int i), .p (.int j)] S = some (.p (.int (if j < i then j else i)), S) := (rfl)
@[simp] theorem maxO_int {i j : Int} {S : AH} : maxO [.p (.int i), .p (.int j)] S = some (.p (.int (if j > i then j else i)), S) := (rfl)
@[simp] theorem tupleO_tup {xs : List PV} {S : AH} : tupleO [.p (.tup xs)] S = some (.p (.tup xs), S) := (rfl)
@[simp] theorem tupleO_lst {xs : List PV} {S : AH} : tupleO [.p (.lst xs)] S = some (.p (.tup xs), S) := (rfl)
theorem tupleO_c {n : Nat} {xs : List PV} {S : AH} (h : S[n]? = some (.lst xs)) : tupleO [.c n] S = some (.p (.tup xs), S) := by
  unfold tupleO items
  simp only [h]
theorem sumO_tup {ns : List Int} {S : AH} : sumO [.p (.tup (ns.map PV.int))] S = some (.p (.int ns.sum), S) := by
  unfold sumO items
  simp only [intsOf_map]
theorem sumO_lst {ns : List Int} {S : AH} : sumO [.p (.lst (ns.map PV.int))] S = some (.p (.int ns.sum), S) := by
  unfold sumO items
  simp only [intsOf_map]
theorem allO_lst {ns : List Bool} {S : AH} : allO [.p (.lst (ns.map PV.bl))] S = some (.p (.bl (ns.all id)), S) := by
  unfold allO litems
  simp only [blsOf_map]
theorem anyO_lst {ns : List Bool} {S : AH} : anyO [.p (.lst (ns.map PV.bl))] S = some (.p (.bl (ns.any id)), S) := by
  unfold anyO litems
  simp only [blsOf_map]
@[simp] theorem pvs_nil : pvs [] = some [] := (rfl)
@[simp] theorem pvs_cons {x : PV} {r : List DV} : pvs (.p x :: r) = (pvs r).map fun t => x :: t := (rfl)
theorem kTup_ok {ds : List DV} {ps : List PV} {S : AH} (h : pvs ds = some ps) (z : ps.length ≤ 1000) : DL.kTup ds S = .ok (.p (.tup ps)) S := by
  unfold DL.kTup
  simp only [h]
  rw [if_pos z]
@[simp] theorem kTup1 {a : PV} {S : AH} : DL.kTup [.p a] S = .ok (.p (.tup [a])) S := (rfl)
@[simp] theorem kTup0 {S : AH} : DL.kTup [] S = .ok (.p (.tup [])) S := (rfl)
@[simp] theorem kTup2 {a b : PV} {S : AH} : DL.kTup [.p a, .p b] S = .ok (.p (.tup [a, b])) S := (rfl)
@[simp] theorem kTup3 {a b c : PV} {S : AH} : DL.kTup [.p a, .p b, .p c] S = .ok (.p (.tup [a, b, c])) S := (rfl)
@[simp] theorem kTup4 {a b c d : PV} {S : AH} : DL.kTup [.p a, .p b, .p c, .p d] S = .ok (.p (.tup [a, b, c, d])) S := (rfl)
@[simp] theorem kLst0 {S : AH} : kLst [] S = .ok [] S := (rfl)
@[simp] theorem kLst1 {a : PV} {S : AH} : kLst [.p a] S = .ok [a] S := (rfl)
@[simp] theorem kLst2 {a b : PV} {S : AH} : kLst [.p a, .p b] S = .ok [a, b] S := (rfl)
@[simp] theorem kLst3 {a b c : PV} {S : AH} : kLst [.p a, .p b, .p c] S = .ok [a, b, c] S := (rfl)
@[simp] theorem kLst4 {a b c d : PV} {S : AH} : kLst [.p a, .p b, .p c, .p d] S = .ok [a, b, c, d] S := (rfl)
theorem kLst_ok {ds : List DV} {ps : List PV} {S : AH} (h : pvs ds = some ps) (z : ps.length ≤ 1000) : kLst ds S = .ok ps S := by
  unfold kLst
  simp only [h]
  rw [if_pos z]
/- defs -/
@[simp] theorem dDef_ap {N n : Nat} {keep : Bool} {body : Sig → AH → Out} {ds : List DV} {S : AH} (h : ds.length = n) : dDef N n keep body ds S = gcK S keep (body (ds.map some ++ List.replicate (N - n) none) S) := by
  unfold dDef
  rw [if_pos h]
@[simp] theorem okC_nil {n : Nat} {S : AH} : okC n [] S = True := eq_true trivial
@[simp] theorem okC_cons {n : Nat} {a b : Cell} {S S' : AH} : okC n (a :: S) (b :: S') = (okc n a b ∧ okC n S S') := (rfl)
@[simp] theorem okc_lst {n : Nat} {a : Cell} {xs : List PV} : okc n a (.lst xs) = True := eq_true trivial
@[simp] theorem okc_same {n : Nat} {a : Cell} : okc n a a = True := eq_true (okc_self n a)
@[simp] theorem okC_same {n : Nat} {S : AH} : okC n S S = True := eq_true (okC_self n S)
@[simp] theorem okC_more {n : Nat} {S J : AH} : okC n S (S ++ J) = True := eq_true (okC_app n S J)
theorem gcK_ok {S : AH} {keep : Bool} {o : Out} (h : okC S.length S o.heap) : gcK S keep o = gcR S.length keep o := by
  unfold gcK
  rw [if_pos h]
@[simp] theorem gc_nx {S0 : AH} {keep : Bool} {δ : Sig} {S : AH} (h : okC S0.length S0 S) : gcK S0 keep (.nx δ S) = .ok (.p .non) (S.take S0.length) := by rw [gcK_ok h]; rfl
@[simp] theorem gc_rt {S0 : AH} {keep : Bool} {v : PV} {S : AH} (h : okC S0.length S0 S) : gcK S0 keep (.rt (.p v) S) = .ok (.p v) (S.take S0.length) := by rw [gcK_ok h]; rfl
@[simp] theorem gc_exc {S0 : AH} {keep : Bool} {δ : Sig} {S : AH} {c : Str} {p : List (Str × PV)} (h : okC S0.length S0 S) : gcK S0 keep (.exc c p δ S) = .exc c p (S.take S0.length) := by rw [gcK_ok h]; rfl
theorem gc_cell {S0 : AH} {i : Nat} {S : AH} {xs : List PV} (ok : okC S0.length S0 S) (h : S0.length ≤ i) (e : S[i]? = some (.lst xs)) : gcK S0 true (.rt (.c i) S) = .ok (.c S0.length) (S.take S0.length ++ [.lst xs]) := by
  rw [gcK_ok ok]
  unfold gcR
  simp only [e]
  rw [if_neg (by omega)]
  rfl
theorem gc_lst {S0 : AH} {i : Nat} {S : AH} {xs : List PV} (ok : okC S0.length S0 S) (h : S0.length ≤ i) (e : S[i]? = some (.lst xs)) : gcK S0 false (.rt (.c i) S) = .ok (.p (.lst xs)) (S.take S0.length) := by
  rw [gcK_ok ok]
  unfold gcR
  simp only [e]
  rw [if_neg (by omega)]
  rfl
theorem gc_nst {S0 : AH} {i : Nat} {S : AH} {ks : List Nat} {ps : List PV} {keep : Bool} (ok : okC S0.length S0 S) (h : S0.length ≤ i) (e : S[i]? = some (.nst ks)) (f : frzCs S0.length S ks = some ps) : gcK S0 keep (.rt (.c i) S) = .ok (.p (.lst ps)) (S.take S0.length) := by
  rw [gcK_ok ok]
  unfold gcR
  simp only [e, f]
  rw [if_neg (by omega)]
theorem gc_tup {S0 : AH} {S : AH} {ds : List DV} {ps : List PV} {keep : Bool} (ok : okC S0.length S0 S) (f : frzDs S0.length S ds = some ps) : gcK S0 keep (.rtT ds S) = .ok (.p (.tup ps)) (S.take S0.length) := by
  rw [gcK_ok ok]
  unfold gcR
  simp only [f]
def jRetT (ds : List DV) (S : AH) : Out := if ds.length ≤ 1000 then .rtT ds S else .bad
@[simp] theorem ev_retT {fs : Sig → AH → Res (List DV)} {δ : Sig} {S : AH} : dRetT fs δ S = (fs δ S).out δ jRetT := (rfl)
@[simp] theorem ev_jRetT1 {a : DV} {S : AH} : jRetT [a] S = .rtT [a] S := (rfl)
@[simp] theorem ev_jRetT2 {a b : DV} {S : AH} : jRetT [a, b] S = .rtT [a, b] S := (rfl)
@[simp] theorem ev_jRetT3 {a b c : DV} {S : AH} : jRetT [a, b, c] S = .rtT [a, b, c] S := (rfl)
@[simp] theorem seq_rtT {ds : List DV} {S : AH} {g : Sig → AH → Out} : (Out.rtT ds S).seq g = .rtT ds S := (rfl)
/- loops -/
section
variable {δ : Sig} {S : AH} {fb : Sig → AH → Out} {q : Pat} {fi : Sig → AH → Res Its'} {fc : Sig → AH → Res Bool} {fe : Sig → AH → Res DV} {fs : Sig → AH → Res (List DV)} {fa : Sig → AH → Res DV}
abbrev ckT : AH → Prop := fun _ => True
noncomputable def jFor (q : Pat) (fb : Sig → AH → Out) (δ : Sig) (x : Its') (S : AH) : Out := forGo x.2 q fb x.1 δ S
@[simp] theorem ev_for : dFor fi q fb δ S = (fi δ S).out δ (jFor q fb δ) := (rfl)
@[simp] theorem ev_jFor {xs : List DV} {ck : AH → Prop} : jFor q fb δ (xs, ck) S = forGo ck q fb xs δ S := (rfl)
@[simp] theorem for_nil : forGo ckT q fb [] δ S = .nx δ S := by
  unfold forGo
  rw [if_pos trivial]
def afterTurn (o : Out) (k : Sig → AH → Out) : Out := match o with
  | .nx δ S => k δ S
  | .ct δ S => k δ S
  | .bk δ S => .nx δ S
  | o => o
@[simp] theorem after_nx {k : Sig → AH → Out} : afterTurn (.nx δ S) k = k δ S := (rfl)
@[simp] theorem after_ct {k : Sig → AH → Out} : afterTurn (.ct δ S) k = k δ S := (rfl)
@[simp] theorem after_bk {k : Sig → AH → Out} : afterTurn (.bk δ S) k = .nx δ S := (rfl)
@[simp] theorem after_rt {k : Sig → AH → Out} {d : DV} : afterTurn (.rt d S) k = .rt d S := (rfl)
@[simp] theorem after_exc {k : Sig → AH → Out} {c : Str} {p : List (Str × PV)} : afterTurn (.exc c p δ S) k = .exc c p δ S := (rfl)
@[simp] theorem after_rtT {k : Sig → AH → Out} {ds : List DV} : afterTurn (.rtT ds S) k = .rtT ds S := (rfl)
@[simp] theorem after_bad {k : Sig → AH → Out} : afterTurn .bad k = .bad := (rfl)
theorem for_cons {x : DV} {xs : List DV} {δ1 : Sig} (h : q.set x δ = some δ1) : forGo ckT q fb (x :: xs) δ S = afterTurn (fb δ1 S) (forGo ckT q fb xs) := by
  conv => lhs; unfold forGo
  rw [if_pos trivial]
  simp only [h]
  unfold afterTurn
  rfl
/-- the name of a loop -/
theorem for_nm {i : Nat} {x : DV} {xs : List DV} : forGo ckT (.nm i) fb (x :: xs) δ S = afterTurn (fb (δ.set i (some x)) S) (forGo ckT (.nm i) fb xs) := for_cons rfl
def kSeqI (d : DV) (S : AH) : Res Its' := match d with
  | .p (.tup xs) => .ok (dit xs, ckT) S
  | .p (.lst xs) => .ok (dit xs, ckT) S
  | .p (.fro xs) => .ok (dit xs, ckT) S
  | .p (.str z) => .ok (signs z, ckT) S
  | .c n => match S[n]? with
    | some (.lst xs) => .ok (dit xs, fun S' => S'[n]? = some (.lst xs)) S
    | some (.nst ks) => .ok (dic ks, fun S' => S'[n]? = some (.nst ks)) S
    | none => .bad
  | _ => .bad
@[simp] theorem ev_seqI : dSeqI fa δ S = (fa δ S).bind kSeqI := (rfl)
@[simp] theorem ev_kSeqI_tup {xs : List PV} : kSeqI (.p (.tup xs)) S = .ok (dit xs, ckT) S := (rfl)
@[simp] theorem ev_kSeqI_lst {xs : List PV} : kSeqI (.p (.lst xs)) S = .ok (dit xs, ckT) S := (rfl)
@[simp] theorem ev_kSeqI_fro {xs : List PV} : kSeqI (.p (.fro xs)) S = .ok (dit xs, ckT) S := (rfl)
theorem ev_kSeqI_c {n : Nat} {xs : List PV} (h : S[n]? = some (.lst xs)) : kSeqI (.c n) S = .ok (dit xs, fun S' => S'[n]? = some (.lst xs)) S := by
  unfold kSeqI
  simp only [h]
theorem ev_kSeqI_n {n : Nat} {ks : List Nat} (h : S[n]? = some (.nst ks)) : kSeqI (.c n) S = .ok (dic ks, fun S' => S'[n]? = some (.nst ks)) S := by
  unfold kSeqI
  simp only [h]
def kRng1 (ds : List DV) (S : AH) : Res Its' := match ds with
  | [.p (.int j)] => if small62 j then .ok (rangeI 0 j.toNat, fun _ => True) S else .bad
  | _ => .bad
@[simp] theorem ev_rng1 : dRng1 fs δ S = (fs δ S).bind kRng1 := (rfl)
theorem kRng1_ok {j : Int} (h : small62 j) : kRng1 [.p (.int j)] S = .ok (rangeI 0 j.toNat, ckT) S := by
  show (if small62 j then _ else _) = _
  rw [if_pos h]
def kRng2 (ds : List DV) (S : AH) : Res Its' := match ds with
  | [.p (.int i), .p (.int j)] => if small62 i ∧ small62 j then .ok (rangeI i (j - i).toNat, fun _ => True) S else .bad
  | _ => .bad
@[simp] theorem ev_rng2 : dRng2 fs δ S = (fs δ S).bind kRng2 := (rfl)
theorem kRng2_ok {i j : Int} (h : small62 i) (h2 : small62 j) : kRng2 [.p (.int i), .p (.int j)] S = .ok (rangeI i (j - i).toNat, ckT) S := by
  show (if small62 i ∧ small62 j then _ else _) = _
  rw [if_pos ⟨h, h2⟩]
@[simp] theorem range0 {lo : Int} : rangeI lo 0 = [] := (rfl)
theorem range_succ {lo : Int} {n : Nat} : rangeI lo (n + 1) = .p (.int lo) :: rangeI (lo + 1) n := by
  unfold rangeI
  rw [List.range_succ_eq_map, List.map_cons, List.map_map]
  congr 1
  · simp
  · refine List.map_congr_left fun i _ => ?_
    show DV.p (PV.int (lo + ((i + 1 : Nat) : Int))) = DV.p (PV.int (lo + 1 + (i : Int)))
    congr 2
    omega
noncomputable def kLc (q : Pat) (fc : Sig → AH → Res Bool) (fe : Sig → AH → Res DV) (vs : List Nat) (δ : Sig) (x : Its') (S : AH) : Res (List PV) := if x.1.length ≤ 16777216 then lcGo x.2 q fc fe (wipeD δ vs) x.1 S else .bad
@[simp] theorem ev_lc {vs : List Nat} : dLc fi q fc fe vs δ S = (fi δ S).bind (kLc q fc fe vs δ) := (rfl)
theorem ev_kLc {vs : List Nat} {xs : List DV} {ck : AH → Prop} (h : xs.length ≤ 16777216) : kLc q fc fe vs δ (xs, ck) S = lcGo ck q fc fe (wipeD δ vs) xs S := by
  unfold kLc
  rw [if_pos h]
@[simp] theorem lc_nil {ck : AH → Prop} (h : ck S) : lcGo ck q fc fe δ [] S = .ok [] S := by
  unfold lcGo
  rw [if_pos h]
def kLcC (y : PV) (ys : List PV) (S : AH) : Res (List PV) := .ok (y :: ys) S
@[simp] theorem ev_kLcC {y : PV} {ys : List PV} : kLcC y ys S = .ok (y :: ys) S := (rfl)
/-- an item that is taken -/
theorem lc_take {ck : AH → Prop} {x : DV} {y : PV} {xs : List DV} {δ2 : Sig} {S1 S2 : AH} (h : ck S) (hq : q.set x δ = some δ2) (hc : fc δ2 S = .ok true S1) (he : fe δ2 S1 = .ok (.p y) S2) :
    lcGo ck q fc fe δ (x :: xs) S = (lcGo ck q fc fe δ xs S2).bind (kLcC y) := by
  rw [show lcGo ck q fc fe δ (x :: xs) S = _ from by unfold lcGo; rfl, if_pos h]
  simp only [hq, hc, nox_ok, Res.bind_ok, if_true, he]
  rfl
theorem lc_skip {ck : AH → Prop} {x : DV} {xs : List DV} {δ2 : Sig} {S1 : AH} (h : ck S) (hq : q.set x δ = some δ2) (hc : fc δ2 S = .ok false S1) :
    lcGo ck q fc fe δ (x :: xs) S = lcGo ck q fc fe δ xs S1 := by
  conv => lhs; unfold lcGo
  rw [if_pos h]
  simp only [hq, hc, nox_ok, Res.bind_ok, Bool.false_eq_true, if_false]
/-- a comprehension that touches nothing -/
theorem lc_map {ck : AH → Prop} {xs : List PV} (h : ck S) (g : PV → PV) (hq : ∀ x ∈ xs, ∃ δ2, q.set (.p x) δ = some δ2 ∧ fe δ2 S = .ok (.p (g x)) S) : lcGo ck q dYes fe δ (dit xs) S = .ok (xs.map g) S := by
  induction xs with
  | nil => exact lc_nil h
  | cons x xs ih =>
    obtain ⟨δ2, h1, h2⟩ := hq x List.mem_cons_self
    rw [dit_cons, lc_take h h1 rfl h2, ih fun y hy => hq y (List.mem_cons_of_mem _ hy)]
    rfl
theorem lc_filter {ck : AH → Prop} {xs : List PV} (h : ck S) (p : PV → Bool) (g : PV → PV) (hq : ∀ x ∈ xs, ∃ δ2, q.set (.p x) δ = some δ2 ∧ fc δ2 S = .ok (p x) S ∧ (p x = true → fe δ2 S = .ok (.p (g x)) S)) : lcGo ck q fc fe δ (dit xs) S = .ok ((xs.filter p).map g) S := by
  induction xs with
  | nil => exact lc_nil h
  | cons x xs ih =>
    obtain ⟨δ2, h1, h2, h3⟩ := hq x List.mem_cons_self
    have ih' := ih fun y hy => hq y (List.mem_cons_of_mem _ hy)
    cases e : p x with
    | true =>
      rw [e] at h2
      rw [dit_cons, lc_take h h1 h2 (h3 e), ih', List.filter_cons_of_pos e]
      rfl
    | false =>
      rw [e] at h2
      rw [dit_cons, lc_skip h h1 h2, ih', List.filter_cons_of_neg (by rw [e]; exact Bool.false_ne_true)]
end
end
end DL
namespace DL
noncomputable section
open PySem L2
/-- data of a depth -/
def PV.fit : Nat → PV → Prop
  | _, .non => True
  | _, .bl _ => True
  | _, .int _ => True
  | _, .str x => (PyData.str x).canLay0 = true
  | _, .glob _ => False
  | 0, _ => False
  | n + 1, .tup xs => ∀ x ∈ xs, PV.fit n x
  | n + 1, .lst xs => ∀ x ∈ xs, PV.fit n x
  | n + 1, .fro xs => ∀ x ∈ xs, PV.fit n x
theorem fits_datas {n : Nat} (ih : ∀ x : PV, x.fit n → ∃ d, x.data = some d ∧ d.canLay0 = true ∧ d.depth ≤ n) : ∀ xs : List PV, (∀ x ∈ xs, x.fit n) → ∃ ds, PV.datas xs = some ds ∧ PyData.canLayAll0 ds = true ∧ PyData.depthAll ds ≤ n
  | [], _ => ⟨[], rfl, by simp [PyData.canLayAll0], by simp [PyData.depthAll]⟩
  | x :: xs, h => by
    obtain ⟨d, h1, h2, h3⟩ := ih x (h x List.mem_cons_self)
    obtain ⟨ds, k1, k2, k3⟩ := fits_datas ih xs fun y hy => h y (List.mem_cons_of_mem _ hy)
    refine ⟨d :: ds, by simp [PV.datas, h1, k1], by simp [PyData.canLayAll0, h2, k2], ?_⟩
    simp only [PyData.depthAll]
    omega
theorem fit_data : ∀ (n : Nat) (x : PV), x.fit n → ∃ d, x.data = some d ∧ d.canLay0 = true ∧ d.depth ≤ n
  | n, .non, _ => ⟨.none, by simp [PV.data], by simp [PyData.canLay0], by simp [PyData.depth]⟩
  | n, .bl b, _ => ⟨.bool b, by simp [PV.data], by simp [PyData.canLay0], by simp [PyData.depth]⟩
  | n, .int i, _ => ⟨.int i, by simp [PV.data], by simp [PyData.canLay0], by simp [PyData.depth]⟩
  | 0, .str x, h => ⟨.str x, by simp [PV.data], h, by simp [PyData.depth]⟩
  | n + 1, .str x, h => ⟨.str x, by simp [PV.data], h, by simp [PyData.depth]⟩
  | 0, .glob _, h => h.elim
  | n + 1, .glob _, h => h.elim
  | 0, .tup _, h => h.elim
  | 0, .lst _, h => h.elim
  | 0, .fro _, h => h.elim
  | n + 1, .tup xs, h => by
    obtain ⟨ds, k1, k2, k3⟩ := fits_datas (fit_data n) xs h
    exact ⟨.tuple ds, by simp [PV.data, k1], by simp [PyData.canLay0, k2], by simp only [PyData.depth]; omega⟩
  | n + 1, .lst xs, h => by
    obtain ⟨ds, k1, k2, k3⟩ := fits_datas (fit_data n) xs h
    exact ⟨.list ds, by simp [PV.data, k1], by simp [PyData.canLay0, k2], by simp only [PyData.depth]; omega⟩
  | n + 1, .fro xs, h => by
    obtain ⟨ds, k1, k2, k3⟩ := fits_datas (fit_data n) xs h
    exact ⟨.list ds, by simp [PV.data, k1], by simp [PyData.canLay0, k2], by simp only [PyData.depth]; omega⟩
theorem fit_shaped {n : Nat} {x : PV} (h : x.fit n) (hn : n ≤ 64) : ∃ d, x.data = some d ∧ SeqAt.shaped d = true := by
  obtain ⟨d, h1, h2, h3⟩ := fit_data n x h
  refine ⟨d, h1, ?_⟩
  unfold SeqAt.shaped
  rw [h2, Bool.true_and]
  exact decide_eq_true (by omega)
theorem sh_eqv {d : PyData} (h : SeqAt.shaped d = true) : PyData.eqv d d = true := by
  unfold SeqAt.shaped at h
  exact PySem.SeqAt.eqv_refl d (Bool.and_eq_true_iff.mp h).1
theorem eqO_self {n : Nat} {x : PV} {S : AH} (h : x.fit n) (hn : n ≤ 64) : eqO (.p x) (.p x) S = some (.p (.bl true), S) := by
  obtain ⟨d, h1, h2⟩ := fit_shaped h hn
  unfold eqO dataOf
  simp only [h1, eqDat, h2, and_self, if_true, Option.map_some, sh_eqv h2]
theorem neO_self {n : Nat} {x : PV} {S : AH} (h : x.fit n) (hn : n ≤ 64) : neO (.p x) (.p x) S = some (.p (.bl false), S) := by
  obtain ⟨d, h1, h2⟩ := fit_shaped h hn
  unfold neO dataOf
  simp only [h1, eqDat, h2, and_self, if_true, Option.map_some, sh_eqv h2, Bool.not_true]
theorem eqv_int (i j : Int) : PyData.eqv (.int i) (.int j) = decide (i = j) := by
  simp only [PyData.eqv]
  cases h : decide (i = j) with
  | true => simpa using h
  | false => simpa using h
@[simp] theorem eqO_int {i j : Int} {S : AH} : eqO (.p (.int i)) (.p (.int j)) S = some (.p (.bl (decide (i = j))), S) := by
  have h1 : SeqAt.shaped (.int i) = true := rfl
  have h2 : SeqAt.shaped (.int j) = true := rfl
  unfold eqO dataOf
  simp only [PV.data, eqDat, h1, h2, and_self, if_true, Option.map_some, eqv_int]
@[simp] theorem neO_int {i j : Int} {S : AH} : neO (.p (.int i)) (.p (.int j)) S = some (.p (.bl (!decide (i = j))), S) := by
  have h1 : SeqAt.shaped (.int i) = true := rfl
  have h2 : SeqAt.shaped (.int j) = true := rfl
  unfold neO dataOf
  simp only [PV.data, eqDat, h1, h2, and_self, if_true, Option.map_some, eqv_int]
/-- a tuple of numbers -/
abbrev tupI (ns : List Int) : PV := .tup (ns.map PV.int)
abbrev lstI (ns : List Int) : PV := .lst (ns.map PV.int)
theorem fit_ints (ns : List Int) {n : Nat} : ∀ x ∈ ns.map PV.int, x.fit n := fun x h => by
  obtain ⟨i, _, rfl⟩ := List.mem_map.mp h
  cases n <;> trivial
theorem fit_tupI (ns : List Int) {n : Nat} : (tupI ns).fit (n + 1) := fit_ints ns
theorem fit_lstI (ns : List Int) {n : Nat} : (lstI ns).fit (n + 1) := fit_ints ns
@[simp] theorem isO_bl {a b : Bool} {S : AH} : isO (.p (.bl a)) (.p (.bl b)) S = some (.p (.bl (decide (a = b))), S) := rfl
@[simp] theorem isNotO_bl {a b : Bool} {S : AH} : isNotO (.p (.bl a)) (.p (.bl b)) S = some (.p (.bl (!decide (a = b))), S) := rfl
@[simp] theorem isO_non {S : AH} : isO (.p .non) (.p .non) S = some (.p (.bl true), S) := rfl
@[simp] theorem isNotO_non {S : AH} : isNotO (.p .non) (.p .non) S = some (.p (.bl false), S) := rfl
@[simp] theorem isO_tup {xs : List PV} {S : AH} : isO (.p (.tup xs)) (.p .non) S = some (.p (.bl false), S) := rfl
@[simp] theorem isNotO_tup {xs : List PV} {S : AH} : isNotO (.p (.tup xs)) (.p .non) S = some (.p (.bl true), S) := rfl
@[simp] theorem isO_int {i : Int} {S : AH} : isO (.p (.int i)) (.p .non) S = some (.p (.bl false), S) := rfl
@[simp] theorem isNotO_int {i : Int} {S : AH} : isNotO (.p (.int i)) (.p .non) S = some (.p (.bl true), S) := rfl
/- kinds -/
@[simp] theorem kIsi_int {i : Int} {T : String} {S : AH} : kIsi T (.p (.int i)) S = .ok (.p (.bl (isTy "int" T))) S := rfl
@[simp] theorem kIsi_bl {b : Bool} {T : String} {S : AH} : kIsi T (.p (.bl b)) S = .ok (.p (.bl (isTy "bool" T))) S := rfl
@[simp] theorem kIsi_str {x : Str} {T : String} {S : AH} : kIsi T (.p (.str x)) S = .ok (.p (.bl (isTy "str" T))) S := rfl
@[simp] theorem kIsi_tup {xs : List PV} {T : String} {S : AH} : kIsi T (.p (.tup xs)) S = .ok (.p (.bl (isTy "tuple" T))) S := rfl
@[simp] theorem kIsi_lst {xs : List PV} {T : String} {S : AH} : kIsi T (.p (.lst xs)) S = .ok (.p (.bl (isTy "list" T))) S := rfl
@[simp] theorem kIsi_non {T : String} {S : AH} : kIsi T (.p .non) S = .ok (.p (.bl (isTy "NoneType" T))) S := rfl
@[simp] theorem kIsiT_int {i : Int} {T : List String} {S : AH} : kIsiT T (.p (.int i)) S = .ok (.p (.bl (T.any fun U => isTy "int" U))) S := rfl
@[simp] theorem kIsiT_bl {b : Bool} {T : List String} {S : AH} : kIsiT T (.p (.bl b)) S = .ok (.p (.bl (T.any fun U => isTy "bool" U))) S := rfl
@[simp] theorem kIsiT_str {x : Str} {T : List String} {S : AH} : kIsiT T (.p (.str x)) S = .ok (.p (.bl (T.any fun U => isTy "str" U))) S := rfl
@[simp] theorem kIsiT_tup {xs : List PV} {T : List String} {S : AH} : kIsiT T (.p (.tup xs)) S = .ok (.p (.bl (T.any fun U => isTy "tuple" U))) S := rfl
@[simp] theorem kIsiT_lst {xs : List PV} {T : List String} {S : AH} : kIsiT T (.p (.lst xs)) S = .ok (.p (.bl (T.any fun U => isTy "list" U))) S := rfl
@[simp] theorem kIsiT_non {T : List String} {S : AH} : kIsiT T (.p .non) S = .ok (.p (.bl (T.any fun U => isTy "NoneType" U))) S := rfl
@[simp] theorem ty_ii : isTy "int" "int" = true := by decide
@[simp] theorem ty_ib : isTy "int" "bool" = false := by decide
@[simp] theorem ty_is : isTy "int" "str" = false := by decide
@[simp] theorem ty_it : isTy "int" "tuple" = false := by decide
@[simp] theorem ty_il : isTy "int" "list" = false := by decide
@[simp] theorem ty_bi : isTy "bool" "int" = true := by decide
@[simp] theorem ty_bb : isTy "bool" "bool" = true := by decide
@[simp] theorem ty_bs : isTy "bool" "str" = false := by decide
@[simp] theorem ty_bt : isTy "bool" "tuple" = false := by decide
@[simp] theorem ty_bl : isTy "bool" "list" = false := by decide
@[simp] theorem ty_si : isTy "str" "int" = false := by decide
@[simp] theorem ty_sb : isTy "str" "bool" = false := by decide
@[simp] theorem ty_ss : isTy "str" "str" = true := by decide
@[simp] theorem ty_st : isTy "str" "tuple" = false := by decide
@[simp] theorem ty_sl : isTy "str" "list" = false := by decide
@[simp] theorem ty_ti : isTy "tuple" "int" = false := by decide
@[simp] theorem ty_tb : isTy "tuple" "bool" = false := by decide
@[simp] theorem ty_ts : isTy "tuple" "str" = false := by decide
@[simp] theorem ty_tt : isTy "tuple" "tuple" = true := by decide
@[simp] theorem ty_tl : isTy "tuple" "list" = false := by decide
@[simp] theorem ty_li : isTy "list" "int" = false := by decide
@[simp] theorem ty_lb : isTy "list" "bool" = false := by decide
@[simp] theorem ty_ls : isTy "list" "str" = false := by decide
@[simp] theorem ty_lt : isTy "list" "tuple" = false := by decide
@[simp] theorem ty_ll : isTy "list" "list" = true := by decide
@[simp] theorem ty_ni : isTy "NoneType" "int" = false := by decide
@[simp] theorem ty_nb : isTy "NoneType" "bool" = false := by decide
@[simp] theorem ty_ns : isTy "NoneType" "str" = false := by decide
@[simp] theorem ty_nt : isTy "NoneType" "tuple" = false := by decide
@[simp] theorem ty_nl : isTy "NoneType" "list" = false := by decide
/- items -/
theorem ixO_c {n : Nat} {i : Int} {xs : List PV} {x : PV} {S : AH} (h : S[n]? = some (.lst xs)) (e : atI xs i = some x) : ixO (.c n) (.p (.int i)) S = some (.p x, S) := by
  unfold ixO items
  simp only [h, e, Option.map_some]
theorem ixO_tup {i : Int} {xs : List PV} {x : PV} {S : AH} (e : atI xs i = some x) : ixO (.p (.tup xs)) (.p (.int i)) S = some (.p x, S) := by
  show (match items (.p (.tup xs)) S with | some xs => (atI xs i).map fun x => (DV.p x, S) | none => none) = _
  simp only [items, e, Option.map_some]
theorem ixO_lst {i : Int} {xs : List PV} {x : PV} {S : AH} (e : atI xs i = some x) : ixO (.p (.lst xs)) (.p (.int i)) S = some (.p x, S) := by
  show (match items (.p (.lst xs)) S with | some xs => (atI xs i).map fun x => (DV.p x, S) | none => none) = _
  simp only [items, e, Option.map_some]
theorem atI_map {α β : Type} (f : α → β) {xs : List α} {i : Int} {x : α} (h : atI xs i = some x) : atI (xs.map f) i = some (f x) := by
  unfold atI at h ⊢
  rw [List.length_map]
  cases e : ixN xs.length i with
  | none => rw [e] at h; cases h
  | some j =>
    rw [e] at h
    simp only [Option.bind_some] at h ⊢
    rw [List.getElem?_map, h]; rfl
/-- an index from 0 on -/
theorem atI_at {α : Type} {xs : List α} {i : Int} {x : α} (h0 : 0 ≤ i) (h : xs[i.toNat]? = some x) : atI xs i = some x := by
  have := atI_nat h
  rwa [Int.toNat_of_nonneg h0] at this
theorem atI_lt {xs : List Int} {i : Int} (h0 : 0 ≤ i) (h : i < xs.length) : ∃ x, atI xs i = some x ∧ xs[i.toNat]? = some x ∧ x ∈ xs := by
  have hi : i.toNat < xs.length := by omega
  exact ⟨xs[i.toNat], atI_at h0 (List.getElem?_eq_getElem hi), List.getElem?_eq_getElem hi, List.getElem_mem hi⟩
/- cells at the end -/
@[simp] theorem last_get {S : AH} {c : Cell} : (S ++ [c])[S.length]? = some c := by simp
@[simp] theorem last_set {S : AH} {c d : Cell} : (S ++ [c]).set S.length d = S ++ [d] := by
  rw [List.set_append_right _ _ (Nat.le_refl _), Nat.sub_self]; rfl
@[simp] theorem last_take {S : AH} {c : Cell} : (S ++ [c]).take S.length = S := by simp
theorem append_c {n : Nat} {xs : List PV} {x : PV} {S : AH} (h : S[n]? = some (.lst xs)) (z : xs.length < 16777216) : appendM (.c n) [.p x] S = some (.p .non, S.set n (.lst (xs ++ [x]))) := by
  unfold appendM
  simp only [h]
  rw [if_pos z]
theorem litems_c {n : Nat} {xs : List PV} {S : AH} (h : S[n]? = some (.lst xs)) : litems (.c n) S = some xs := by
  unfold litems
  simp only [h]
@[simp] theorem litems_lst {xs : List PV} {S : AH} : litems (.p (.lst xs)) S = some xs := rfl
/-- append to the last cell -/
theorem ev_append {fs : Sig → AH → Res (List DV)} {δ : Sig} {S S' : AH} {n : Nat} {xs : List PV} {x : PV} (h : S[n]? = some (.lst xs)) (e : fs δ S = .ok [.p x] S') (h' : S'[n]? = some (.lst xs)) (z : xs.length < 16777216) :
    kMeth appendM fs δ (.c n) S = .ok (.p .non) (S'.set n (.lst (xs ++ [x]))) := by
  rw [ev_kMeth (litems_c h), e]
  simp only [Res.bind_ok, ev_kMeth2]
  rw [append_c h' z, lift_some]
theorem cutL_map {α β : Type} (f : α → β) (xs : List α) (lo hi : Option Int) : cutL (xs.map f) lo hi = (cutL xs lo hi).map f := by
  unfold cutL
  rw [List.length_map, List.map_take, List.map_drop]
end
end DL
namespace DL
noncomputable section
open PySem L2
section
variable {δ : Sig} {S : AH} {fb : Sig → AH → Out} {q : Pat} {fc : Sig → AH → Res Bool} {fe : Sig → AH → Res DV} {fs : Sig → AH → Res (List DV)}
/-- an invariant of a for loop -/
theorem for_rule (P : List DV → Sig → AH → Prop) {xs : List DV} (h0 : P xs δ S) (step : ∀ x xs δ S, P (x :: xs) δ S → ∃ δ1, q.set x δ = some δ1 ∧ ∃ δ2 S2, fb δ1 S = .nx δ2 S2 ∧ P xs δ2 S2) : ∃ δ' S', forGo ckT q fb xs δ S = .nx δ' S' ∧ P [] δ' S' := by
  induction xs generalizing δ S with
  | nil => exact ⟨δ, S, for_nil, h0⟩
  | cons x xs ih =>
    obtain ⟨δ1, h1, δ2, S2, h2, h3⟩ := step x xs δ S h0
    obtain ⟨δ', S', h4, h5⟩ := ih h3
    exact ⟨δ', S', by rw [for_cons h1, h2, after_nx, h4], h5⟩
theorem rangeI_eq (lo : Int) (n : Nat) : rangeI lo n = (List.range n).map fun (i : Nat) => DV.p (.int (lo + (i : Int))) := rfl
@[simp] theorem rangeI_len (lo : Int) (n : Nat) : (rangeI lo n).length = n := by rw [rangeI_eq]; simp
theorem lc_rmap {i : Nat} {lo : Int} {n : Nat} (g : Nat → PV) (h : ∀ k < n, fe (δ.set i (some (.p (.int (lo + (k : Int)))))) S = .ok (.p (g k)) S) : lcGo ckT (.nm i) dYes fe δ (rangeI lo n) S = .ok ((List.range n).map g) S := by
  induction n generalizing lo g with
  | zero => exact lc_nil trivial
  | succ n ih =>
    rw [range_succ, lc_take trivial rfl rfl (h 0 (by omega) |> fun k => by simpa using k)]
    rw [ih (fun k => g (k + 1)) fun k hk => by
      have := h (k + 1) (by omega)
      rwa [show lo + ((k + 1 : Nat) : Int) = lo + 1 + (k : Int) by omega] at this]
    rw [Res.bind_ok, ev_kLcC, List.range_succ_eq_map, List.map_cons, List.map_map]
    rfl
theorem lc_rfilter {i : Nat} {lo : Int} {n : Nat} (p : Nat → Bool) (g : Nat → PV) (hc : ∀ k < n, fc (δ.set i (some (.p (.int (lo + (k : Int)))))) S = .ok (p k) S) (h : ∀ k < n, p k = true → fe (δ.set i (some (.p (.int (lo + (k : Int)))))) S = .ok (.p (g k)) S) : lcGo ckT (.nm i) fc fe δ (rangeI lo n) S = .ok (((List.range n).filter p).map g) S := by
  induction n generalizing lo g p with
  | zero => exact lc_nil trivial
  | succ n ih =>
    have ih' := ih (lo := lo + 1) (fun k => p (k + 1)) (fun k => g (k + 1)) (fun k hk => by
      have := hc (k + 1) (by omega)
      rwa [show lo + ((k + 1 : Nat) : Int) = lo + 1 + (k : Int) by omega] at this) (fun k hk e => by
      have := h (k + 1) (by omega) e
      rwa [show lo + ((k + 1 : Nat) : Int) = lo + 1 + (k : Int) by omega] at this)
    have c0 : fc (δ.set i (some (.p (.int lo)))) S = .ok (p 0) S := by simpa using hc 0 (by omega)
    have e2 : ((List.range (n + 1)).filter p).map g = (if p 0 = true then [g 0] else []) ++ ((List.range n).filter fun k => p (k + 1)).map (fun k => g (k + 1)) := by
      rw [List.range_succ_eq_map, List.filter_cons]
      have : ((List.range n).map Nat.succ).filter p = ((List.range n).filter fun k => p (k + 1)).map Nat.succ := by
        rw [List.filter_map]; rfl
      split <;> rename_i hp
      · rw [this]
        simp [List.map_map, Function.comp_def]
      · rw [this]
        simp [List.map_map, Function.comp_def]
    rw [range_succ, e2]
    cases e : p 0 with
    | true =>
      rw [e] at c0
      have h0 : fe (δ.set i (some (.p (.int lo)))) S = .ok (.p (g 0)) S := by simpa using h 0 (by omega) e
      rw [lc_take trivial rfl c0 h0, ih', Res.bind_ok, ev_kLcC]
      rfl
    | false =>
      rw [e] at c0
      rw [lc_skip trivial rfl c0, ih']
      rfl
theorem range_one {n k0 : Nat} {p : Nat → Bool} (h : k0 < n) (hp : ∀ k < n, p k = true ↔ k = k0) : (List.range n).filter p = [k0] := by
  have e : (List.range n).filter p = (List.range n).filter (fun k => k == k0) := List.filter_congr fun k hk => by
    have := hp k (List.mem_range.mp hk)
    cases e : p k with
    | true => rw [e] at this; simp [this.mp rfl]
    | false =>
      rw [e] at this
      have : ¬ k = k0 := fun c => Bool.false_ne_true (this.mpr c)
      simp [this]
  rw [e]
  clear e hp
  induction n with
  | zero => omega
  | succ n ih =>
    rw [List.range_succ, List.filter_append]
    by_cases z : k0 = n
    · subst z
      have : (List.range k0).filter (fun k => k == k0) = [] := List.filter_eq_nil_iff.mpr fun k hk => by
        have := List.mem_range.mp hk
        simp; omega
      rw [this]; simp
    · rw [ih (by omega)]
      have : ¬ n = k0 := fun c => z c.symm
      simp [this]
theorem kMeth_c {o : OpM} {n : Nat} {xs : List PV} (h : S[n]? = some (.lst xs)) : kMeth o fs δ (.c n) S = (fs δ S).bind (kMeth2 o (.c n)) := ev_kMeth (litems_c h)
@[simp] theorem kMeth_last {o : OpM} {xs : List PV} : kMeth o fs δ (.c S.length) (S ++ [.lst xs]) = (fs δ (S ++ [.lst xs])).bind (kMeth2 o (.c S.length)) := kMeth_c last_get
theorem append_last {xs : List PV} {x : PV} (z : xs.length < 16777216) : appendM (.c S.length) [.p x] (S ++ [.lst xs]) = some (.p .non, S ++ [.lst (xs ++ [x])]) := by
  rw [append_c last_get z, last_set]
theorem setIx_c {n k : Nat} {xs : List PV} {x : PV} (h : S[n]? = some (.lst xs)) (hk : k < xs.length) : setIx (.c n) (.p (.int (k : Int))) (.p x) S = some (S.set n (.lst (xs.set k x))) := by
  have e : ixN xs.length (k : Int) = some k := by
    unfold ixN
    rw [if_pos (by omega), if_pos (by omega), Int.toNat_natCast]
  unfold setIx
  simp only [h, e, Option.map_some]
theorem tupleO_last {xs : List PV} : tupleO [.c S.length] (S ++ [.lst xs]) = some (.p (.tup xs), S ++ [.lst xs]) := tupleO_c last_get
@[simp] theorem gc_last {xs : List PV} {d : PV} {keep : Bool} : gcK S keep (.rt (.p d) (S ++ [.lst xs])) = .ok (.p d) S := by
  rw [gc_rt (okC_app _ _ _), last_take]
end
@[simp] theorem kLst5 {x0 x1 x2 x3 x4 : PV} {S : AH} : kLst [.p x0, .p x1, .p x2, .p x3, .p x4] S = .ok [x0, x1, x2, x3, x4] S := (rfl)
@[simp] theorem kLst6 {x0 x1 x2 x3 x4 x5 : PV} {S : AH} : kLst [.p x0, .p x1, .p x2, .p x3, .p x4, .p x5] S = .ok [x0, x1, x2, x3, x4, x5] S := (rfl)
@[simp] theorem kLst7 {x0 x1 x2 x3 x4 x5 x6 : PV} {S : AH} : kLst [.p x0, .p x1, .p x2, .p x3, .p x4, .p x5, .p x6] S = .ok [x0, x1, x2, x3, x4, x5, x6] S := (rfl)
@[simp] theorem kLst8 {x0 x1 x2 x3 x4 x5 x6 x7 : PV} {S : AH} : kLst [.p x0, .p x1, .p x2, .p x3, .p x4, .p x5, .p x6, .p x7] S = .ok [x0, x1, x2, x3, x4, x5, x6, x7] S := (rfl)
@[simp] theorem kLst9 {x0 x1 x2 x3 x4 x5 x6 x7 x8 : PV} {S : AH} : kLst [.p x0, .p x1, .p x2, .p x3, .p x4, .p x5, .p x6, .p x7, .p x8] S = .ok [x0, x1, x2, x3, x4, x5, x6, x7, x8] S := (rfl)
@[simp] theorem kLst10 {x0 x1 x2 x3 x4 x5 x6 x7 x8 x9 : PV} {S : AH} : kLst [.p x0, .p x1, .p x2, .p x3, .p x4, .p x5, .p x6, .p x7, .p x8, .p x9] S = .ok [x0, x1, x2, x3, x4, x5, x6, x7, x8, x9] S := (rfl)
@[simp] theorem kLst11 {x0 x1 x2 x3 x4 x5 x6 x7 x8 x9 x10 : PV} {S : AH} : kLst [.p x0, .p x1, .p x2, .p x3, .p x4, .p x5, .p x6, .p x7, .p x8, .p x9, .p x10] S = .ok [x0, x1, x2, x3, x4, x5, x6, x7, x8, x9, x10] S := (rfl)
@[simp] theorem kLst12 {x0 x1 x2 x3 x4 x5 x6 x7 x8 x9 x10 x11 : PV} {S : AH} : kLst [.p x0, .p x1, .p x2, .p x3, .p x4, .p x5, .p x6, .p x7, .p x8, .p x9, .p x10, .p x11] S = .ok [x0, x1, x2, x3, x4, x5, x6, x7, x8, x9, x10, x11] S := (rfl)
@[simp] theorem kLst13 {x0 x1 x2 x3 x4 x5 x6 x7 x8 x9 x10 x11 x12 : PV} {S : AH} : kLst [.p x0, .p x1, .p x2, .p x3, .p x4, .p x5, .p x6, .p x7, .p x8, .p x9, .p x10, .p x11, .p x12] S = .ok [x0, x1, x2, x3, x4, x5, x6, x7, x8, x9, x10, x11, x12] S := (rfl)
@[simp] theorem kTup5 {x0 x1 x2 x3 x4 : PV} {S : AH} : DL.kTup [.p x0, .p x1, .p x2, .p x3, .p x4] S = .ok (.p (.tup [x0, x1, x2, x3, x4])) S := (rfl)
@[simp] theorem kTup6 {x0 x1 x2 x3 x4 x5 : PV} {S : AH} : DL.kTup [.p x0, .p x1, .p x2, .p x3, .p x4, .p x5] S = .ok (.p (.tup [x0, x1, x2, x3, x4, x5])) S := (rfl)
@[simp] theorem kTup7 {x0 x1 x2 x3 x4 x5 x6 : PV} {S : AH} : DL.kTup [.p x0, .p x1, .p x2, .p x3, .p x4, .p x5, .p x6] S = .ok (.p (.tup [x0, x1, x2, x3, x4, x5, x6])) S := (rfl)
theorem listF_tup {xs : List PV} {S : AH} : listF [.p (.tup xs)] S = some xs := (rfl)
theorem addO_lst {xs ys : List PV} {S : AH} (h : xs.length + ys.length ≤ 16777216) : addO (.p (.lst xs)) (.p (.lst ys)) S = some (.p (.lst (xs ++ ys)), S) := by
  show (if xs.length + ys.length ≤ sizeLine then _ else _) = _
  rw [if_pos (by rw [show sizeLine = 16777216 by decide]; exact h)]
theorem mulO_tup {xs : List PV} {k : Int} {S : AH} (h : xs ≠ [] ∧ 2 ≤ k ∧ k ≤ 1000 ∧ xs.length ≤ 1000) : mulO (.p (.tup xs)) (.p (.int k)) S = some (.p (.tup (List.replicate k.toNat xs).flatten), S) := by
  show (if xs ≠ [] ∧ 2 ≤ k ∧ k ≤ 1000 ∧ xs.length ≤ 1000 then _ else _) = _
  rw [if_pos h]
/- try -/
def tryOf (sub : Str → Option Bool) (fs : Sig → AH → Out) (o : Out) : Out := match o with
  | .exc c p δ' S' => match sub c with
    | some true => (fs δ' S').nox
    | some false => .exc c p δ' S'
    | none => .bad
  | o => o
@[simp] theorem ev_try {sub : Str → Option Bool} {fb fs : Sig → AH → Out} {δ : Sig} {S : AH} : dTry sub fb fs δ S = tryOf sub fs (fb δ S) := by
  unfold dTry tryOf
  rfl
@[simp] theorem try_nx {sub : Str → Option Bool} {fs : Sig → AH → Out} {δ : Sig} {S : AH} : tryOf sub fs (.nx δ S) = .nx δ S := (rfl)
@[simp] theorem try_rt {sub : Str → Option Bool} {fs : Sig → AH → Out} {d : DV} {S : AH} : tryOf sub fs (.rt d S) = .rt d S := (rfl)
theorem try_exc {sub : Str → Option Bool} {fs : Sig → AH → Out} {c : Str} {p : List (Str × PV)} {δ : Sig} {S : AH} (h : sub c = some true) : tryOf sub fs (.exc c p δ S) = (fs δ S).nox := by
  unfold tryOf
  simp only [h]
@[simp] theorem onox_nx {δ : Sig} {S : AH} : (Out.nx δ S).nox = .nx δ S := (rfl)
@[simp] theorem onox_rt {d : DV} {S : AH} : (Out.rt d S).nox = .rt d S := (rfl)
theorem sorted_tup {ns : List Int} {S : AH} : sortedF [.p (.tup (ns.map PV.int))] S = some ((sortI ns).map PV.int) := by
  unfold sortedF
  simp only [intsOf_map]
theorem kAppF_some {o : OpF} {ds : List DV} {ps : List PV} {S : AH} (h : o ds S = some ps) : kAppF o ds S = .ok ps S := by
  unfold kAppF
  simp only [h]
/- two cells at the end -/
section
variable {R : AH} {A B : Cell} {δ : Sig} {fs : Sig → AH → Res (List DV)}
@[simp] theorem two_get0 : (R ++ [A, B])[R.length]? = some A := by simp
@[simp] theorem two_get1 : (R ++ [A, B])[R.length + 1]? = some B := by
  rw [List.getElem?_append_right (by omega), Nat.add_sub_cancel_left]; rfl
@[simp] theorem two_set0 {C : Cell} : (R ++ [A, B]).set R.length C = R ++ [C, B] := by
  rw [List.set_append_right _ _ (Nat.le_refl _), Nat.sub_self]; rfl
@[simp] theorem two_set1 {C : Cell} : (R ++ [A, B]).set (R.length + 1) C = R ++ [A, C] := by
  rw [List.set_append_right _ _ (by omega), Nat.add_sub_cancel_left]; rfl
@[simp] theorem two_take : (R ++ [A, B]).take R.length = R := by simp
@[simp] theorem kMeth_two0 {o : OpM} {xs : List PV} : kMeth o fs δ (.c R.length) (R ++ [.lst xs, B]) = (fs δ (R ++ [.lst xs, B])).bind (kMeth2 o (.c R.length)) := kMeth_c two_get0
@[simp] theorem kMeth_two1 {o : OpM} {xs : List PV} : kMeth o fs δ (.c (R.length + 1)) (R ++ [A, .lst xs]) = (fs δ (R ++ [A, .lst xs])).bind (kMeth2 o (.c (R.length + 1))) := kMeth_c two_get1
@[simp] theorem kMeth0_two0 {o : OpM} {xs : List PV} : kMeth0 o (.c R.length) (R ++ [.lst xs, B]) = lift (o (.c R.length) [] (R ++ [.lst xs, B])) := ev_kMeth0 (litems_c two_get0)
@[simp] theorem kMeth0_two1 {o : OpM} {xs : List PV} : kMeth0 o (.c (R.length + 1)) (R ++ [A, .lst xs]) = lift (o (.c (R.length + 1)) [] (R ++ [A, .lst xs])) := ev_kMeth0 (litems_c two_get1)
theorem append_two0 {xs : List PV} {x : PV} (z : xs.length < 16777216) : appendM (.c R.length) [.p x] (R ++ [.lst xs, B]) = some (.p .non, R ++ [.lst (xs ++ [x]), B]) := by
  rw [append_c two_get0 z, two_set0]
theorem append_two1 {xs : List PV} {x : PV} (z : xs.length < 16777216) : appendM (.c (R.length + 1)) [.p x] (R ++ [A, .lst xs]) = some (.p .non, R ++ [A, .lst (xs ++ [x])]) := by
  rw [append_c two_get1 z, two_set1]
theorem pop_c {n : Nat} {xs : List PV} {y : PV} {S : AH} (h : S[n]? = some (.lst (xs ++ [y]))) : popM (.c n) [] S = some (.p y, S.set n (.lst xs)) := by
  unfold popM
  simp [h]
@[simp] theorem pop_two0 {xs : List PV} {y : PV} : popM (.c R.length) [] (R ++ [.lst (xs ++ [y]), B]) = some (.p y, R ++ [.lst xs, B]) := by
  rw [pop_c two_get0, two_set0]
@[simp] theorem pop_two1 {xs : List PV} {y : PV} : popM (.c (R.length + 1)) [] (R ++ [A, .lst (xs ++ [y])]) = some (.p y, R ++ [A, .lst xs]) := by
  rw [pop_c two_get1, two_set1]
@[simp] theorem len_two0 {xs : List PV} : lenO [.c R.length] (R ++ [.lst xs, B]) = some (.p (.int xs.length), R ++ [.lst xs, B]) := lenO_c two_get0
@[simp] theorem len_two1 {xs : List PV} : lenO [.c (R.length + 1)] (R ++ [A, .lst xs]) = some (.p (.int xs.length), R ++ [A, .lst xs]) := lenO_c two_get1
@[simp] theorem tuple_two0 {xs : List PV} : tupleO [.c R.length] (R ++ [.lst xs, B]) = some (.p (.tup xs), R ++ [.lst xs, B]) := tupleO_c two_get0
@[simp] theorem tuple_two1 {xs : List PV} : tupleO [.c (R.length + 1)] (R ++ [A, .lst xs]) = some (.p (.tup xs), R ++ [A, .lst xs]) := tupleO_c two_get1
end
@[simp] theorem slO_tup {xs : List PV} {lo hi : Option Int} {S : AH} : slO (.p (.tup xs)) lo hi S = some (.p (.tup (cutL xs lo hi)), S) := rfl
@[simp] theorem slO_fro {xs : List PV} {lo hi : Option Int} {S : AH} : slO (.p (.fro xs)) lo hi S = some (.p (.lst (cutL xs lo hi)), S) := rfl
@[simp] theorem slO_lst {xs : List PV} {lo hi : Option Int} {S : AH} : slO (.p (.lst xs)) lo hi S = some (.p (.lst (cutL xs lo hi)), S) := rfl
@[simp] theorem revO_tup {xs : List PV} {S : AH} : revO (.p (.tup xs)) S = some (.p (.tup xs.reverse), S) := rfl
theorem cut_from0 {α : Type} {xs : List α} {k : Nat} (h : k ≤ xs.length) : cutL xs (some (k : Int)) none = xs.drop k := by
  unfold cutL
  have e1 : HT.sIx xs.length 0 (some (k : Int)) = k := by
    rw [HT.sIx_nat]; omega
  have e2 : HT.sIx xs.length xs.length none = xs.length := rfl
  rw [e1, e2]
  exact List.take_of_length_le (by rw [List.length_drop]; omega)
theorem cut_to0 {α : Type} {xs : List α} {k : Nat} (h : k ≤ xs.length) : cutL xs none (some (k : Int)) = xs.take k := by
  unfold cutL
  have e1 : HT.sIx xs.length xs.length (some (k : Int)) = k := by
    rw [HT.sIx_nat]; omega
  have e2 : HT.sIx xs.length 0 none = 0 := rfl
  rw [e1, e2]
  rfl
theorem cut_from {α : Type} {xs : List α} {k : Nat} (h : True := trivial) : cutL xs (some (k : Int)) none = xs.drop k := by
  by_cases z : k ≤ xs.length
  · exact cut_from0 z
  · unfold cutL
    have e1 : HT.sIx xs.length 0 (some (k : Int)) = xs.length := by
      rw [HT.sIx_nat]; omega
    rw [e1, List.drop_length, List.drop_of_length_le (by omega)]
    simp
theorem cut_to {α : Type} {xs : List α} {k : Nat} (h : True := trivial) : cutL xs none (some (k : Int)) = xs.take k := by
  by_cases z : k ≤ xs.length
  · exact cut_to0 z
  · unfold cutL
    have e1 : HT.sIx xs.length xs.length (some (k : Int)) = xs.length := by
      rw [HT.sIx_nat]; omega
    have e2 : HT.sIx xs.length 0 none = 0 := rfl
    rw [e1, e2, List.take_of_length_le (by simp), List.take_of_length_le (by omega)]
    rfl
theorem small62_of {i : Int} (h : -(2 ^ 62) < i ∧ i < 2 ^ 62) : small62 i := by
  unfold small62
  omega
end
end DL
namespace DL
noncomputable section
open PySem PySem.Spec PyProof.Rows L2
/-! ### nests: lists whose items are cells -/
def WK (M : Wd) (E : XK) (as : As) (H : Hp) (r : Res (List Nat)) (Q : VK) : Prop := match r with
  | .ok ks S' => ∀ as' H' p vs, Ext as H as' H' → SR M as' H' S' → vs.length ≤ sizeLine → KRs as' vs ks → H' p = none → Q (.ref p) (upd H' p (.lst vs))
  | .exc c p S' => ∀ as' H' cls dd, Ext as H as' H' → SR M as' H' S' → ExR M as' H' c p cls dd → E cls dd H'
  | .bad => False
def dNest (f : Sig → AH → Res (List Nat)) : Sig → AH → Res DV := fun δ S => (f δ S).bind fun ks S => .ok (.c S.length) (S ++ [.nst ks])
section
variable {M : Wd} {E0 E1 : XK} {as as' : As} {H H' : Hp} {α β : Type} {R : As → Hp → β → α → Prop}
theorem WK.later {r : Res (List Nat)} {Q : VK} (x : Ext as H as' H') (w : WK M E0 as H r Q) : WK M E0 as' H' r Q := by
  cases r with
  | ok a S => exact fun as2 H2 p vs e => w as2 H2 p vs (x.trans e)
  | exc c p S => exact fun as2 H2 cls dd e => w as2 H2 cls dd (x.trans e)
  | bad => exact w
theorem WK.bind {r : Res α} {k : α → AH → Res (List Nat)} {Q : VK} (w : WK M E0 as H (r.bind k) Q) :
    WR M E0 R as H r (fun b H1 => ∃ as1 S1 a, r = .ok a S1 ∧ Ext as H as1 H1 ∧ SR M as1 H1 S1 ∧ R as1 H1 b a ∧ WK M E0 as1 H1 (k a S1) Q) := by
  cases r with
  | ok a S => exact fun as2 H2 b e s q => ⟨as2, S, a, rfl, e, s, q, WK.later e w⟩
  | exc c p S => exact w
  | bad => exact w
theorem WK.here {S : AH} {ks : List Nat} {Q : VK} {p : Addr} {vs : List V} (w : WK M E0 as H (.ok ks S) Q) (s : SR M as H S) (z : vs.length ≤ sizeLine) (r : KRs as vs ks) (n : H p = none) : Q (.ref p) (upd H p (.lst vs)) := w as H p vs (Ext.refl _ _) s z r n
theorem WK.nest {r : Res (List Nat)} {Q : VK} (w : WR M E0 (DVR M) as H (r.bind fun ks S => .ok (.c S.length) (S ++ [.nst ks])) Q) : WK M E0 as H r Q := by
  cases r with
  | ok ks S => exact fun as2 H2 p vs e s z t n => w (as2.add p) _ _ (e.trans (ext_cell s n)) (s.newNest n z t) ⟨p, by rw [← s.len]; simp [As.add], rfl⟩
  | exc c p S => exact w
  | bad => exact w
end
def tK (M : Wd) (E : L2.St → XK) (f : Sig → AH → Res (List Nat)) : TE := fun σ H Q => ∃ as δ S, SR M as H S ∧ ER M as H σ δ ∧ WK M (E σ) as H (f δ S) Q
/-- a new list whose items are cells -/
abbrev FK (X : Cx) (E : L2.St → XK) (e : Expr) (f : Sig → AH → Res (List Nat)) : Prop := PE X e (tK (wd X) E f)
theorem de_nest {X : Cx} {E : L2.St → XK} {e : Expr} {f : Sig → AH → Res (List Nat)} (h : FK X E e f) : DE X E e (dNest f) := h.imp fun σ H Q ⟨as, δ, S, sr, er, w⟩ => ⟨as, δ, S, sr, er, WK.nest w⟩
def cells : List DV → Option (List Nat)
  | [] => some []
  | .c k :: r => (cells r).map fun t => k :: t
  | .p _ :: _ => none
theorem cells_ok {M : Wd} {as : As} {H : Hp} : ∀ {ds : List DV} {vs : List V} {ks : List Nat}, DVRs M as H vs ds → cells ds = some ks → KRs as vs ks
  | [], _, _, .nil, e => by cases e; exact .nil
  | .c k :: r, _, _, .cons h t, e => by
    simp only [cells, Option.map_eq_some_iff] at e
    obtain ⟨qs, e1, rfl⟩ := e
    exact .cons h (cells_ok t e1)
  | .p _ :: _, _, _, _, e => by cases e
def dLstK (fs : Sig → AH → Res (List DV)) : Sig → AH → Res (List Nat) := fun δ S => (fs δ S).bind fun ds S => match cells ds with
  | some ks => if ks.length ≤ 1000 then .ok ks S else .bad
  | none => .bad
theorem fk_lst {X : Cx} {E : L2.St → XK} {es : List Expr} {pos : Pos} {fs : Sig → AH → Res (List DV)} (h : DA X E es fs) : FK X E (.List es pos) (dLstK fs) := (pe_lst h).imp fun σ H Q ⟨as, δ, S, sr, er, w⟩ =>
  ⟨as, δ, S, sr, er, (WK.bind w).mono fun _ _ _ _ vs _ _ _ _ ⟨as1, S1, ds, _, x1, s1, r1, w1⟩ => by
    split at w1
    · rename_i ks e
      split at w1
      · rename_i z
        have t := cells_ok r1 e
        have z2 : vs.length ≤ sizeLine := by rw [t.length]; exact le1000 z
        exact ⟨z2, fun p n => w1.here s1 z2 t n⟩
      · exact w1.elim
    · exact w1.elim⟩
open Classical in
def lcGoK (ck : AH → Prop) (q : Pat) (fc : Sig → AH → Res Bool) (fe : Sig → AH → Res DV) (δ : Sig) : List DV → AH → Res (List Nat)
  | [], S => if ck S then .ok [] S else .bad
  | x :: xs, S => if ck S then match q.set x δ with
    | none => .bad
    | some δ2 => (fc δ2 S).nox.bind fun b S1 => if b = true then (fe δ2 S1).nox.bind fun d S2 => match d with
        | .c y => (lcGoK ck q fc fe δ xs S2).bind fun ys S3 => .ok (y :: ys) S3
        | .p _ => .bad
      else lcGoK ck q fc fe δ xs S1
    else .bad
def dLcK (fi : Sig → AH → Res Its') (q : Pat) (fc : Sig → AH → Res Bool) (fe : Sig → AH → Res DV) (vs : List Nat) : Sig → AH → Res (List Nat) := fun δ S => (fi δ S).bind fun x S1 => if x.1.length ≤ 16777216 then lcGoK x.2 q fc fe (wipeD δ vs) x.1 S1 else .bad
section
variable {X : Cx} {E : L2.St → XK} {elt tg iter : Expr} {ifs : List Expr} {scope : Scope} {own : List (Str × Nat)} {pos : Pos} {fi : Sig → AH → Res Its'} {q : Pat} {fc : Sig → AH → Res Bool} {fe : Sig → AH → Res DV}
theorem lc_tN {σ : L2.St} {H : Hp} {Q : VK} {as : As} {δ : Sig} {S : AH} {vs : List Nat} (hq : ∀ i ∈ q.slots, i ∈ vs) (sr : SR (wd X) as H S) (er : ER (wd X) as H σ δ) (w : WK (wd X) (E σ) as H (dLcK fi q fc fe vs δ S) Q) :
    tLc (tI (wd X) E fi) (tPat X.K q) (tDT (wd X) EN fc) (tD (wd X) EN fe) vs σ H Q := by
  refine ⟨as, δ, S, sr, er, (WK.bind w).mono fun _ _ _ H1 J _ _ _ _ ⟨as1, S1, x, _, e1, s1, y1, w1⟩ => ?_⟩
  obtain ⟨xs, ck⟩ := x
  intro D nD
  have er1 := er.mono e1.w
  have nh : ¬ as1.hid D := (s1.fresh nD).2
  dsimp only at w1 y1
  have hz : xs.length ≤ 16777216 := by
    refine Classical.byContradiction fun n => ?_
    rw [if_neg n] at w1
    exact w1
  rw [if_pos hz] at w1
  refine ⟨fun i m H => m = xs.length - i ∧ i ≤ xs.length ∧ ∃ (asm : As) (Sm : AH) (accV : List V) (accP : List Nat), H D = some (.lst accV) ∧ accV.length ≤ i ∧ Ext as1 H1 asm (del H D) ∧ SR (wd X) asm (del H D) Sm ∧ KRs asm accV accP ∧
      WK (wd X) (E σ) asm (del H D) ((lcGoK ck q fc fe (wipeD δ vs) (xs.drop i) Sm).bind fun ys S => .ok (accP ++ ys) S) Q, ⟨xs.length, rfl, Nat.zero_le _, as1, S1, [], [], upd_same, Nat.zero_le _, ?_⟩, ?_⟩
  · rw [del_upd nD]
    refine ⟨Ext.refl _ _, s1, .nil, ?_⟩
    rw [List.drop_zero]
    have e : ((lcGoK ck q fc fe (wipeD δ vs) xs S1).bind fun ys S => Res.ok ([] ++ ys) S) = lcGoK ck q fc fe (wipeD δ vs) xs S1 := by
      cases lcGoK ck q fc fe (wipeD δ vs) xs S1 <;> rfl
    rw [e]
    exact w1
  · rintro i m H2 ⟨rfl, hi, asm, Sm, accV, accP, hD, hlen, em, sm, tm, wm⟩
    have eH : upd (del H2 D) D (.lst accV) = H2 := upd_del hD
    have nm : del H2 D D = none := del_same _ _
    have nhm : ¬ asm.hid D := by rw [em.hids]; exact nh
    have sh : SR (wd X) (asm.hide D) H2 Sm := by have := sm.hide (o := .lst accV) nm; rw [eH] at this; exact this
    have xw : Exw as1 H1 (asm.hide D) H2 := by have := em.w.hide (o := .lst accV) nD; rw [eH] at this; exact this
    by_cases hlt : i < xs.length
    · have hx : xs[i]? = some xs[i] := List.getElem?_eq_getElem hlt
      have hd : xs.drop i = xs[i] :: xs.drop (i + 1) := List.drop_eq_getElem_cons hlt
      rw [hd] at wm
      unfold lcGoK at wm
      have hck : ck Sm := by
        refine Classical.byContradiction fun n => ?_
        rw [if_neg n] at wm
        exact wm
      rw [if_pos hck] at wm
      refine .inr ⟨y1.go _ _ _ xw sh hck i hlt, fun H' => (i + 1 ≤ xs.length ∧ ∃ (asm : As) (Sm : AH) (accV : List V) (accP : List Nat), H' D = some (.lst accV) ∧ accV.length ≤ i + 1 ∧ Ext as1 H1 asm (del H' D) ∧ SR (wd X) asm (del H' D) Sm ∧ KRs asm accV accP ∧
        WK (wd X) (E σ) asm (del H' D) ((lcGoK ck q fc fe (wipeD δ vs) (xs.drop (i + 1)) Sm).bind fun ys S => .ok (accP ++ ys) S) Q), fun H' n => ⟨xs.length - (i + 1), by omega, rfl, n.1, n.2⟩, fun v H' yv => ?_⟩
      obtain ⟨e3, s3, r3⟩ := y1.yld _ _ _ xw sh hck i _ v H' hx yv
      cases eq : q.set xs[i] (wipeD δ vs) with
      | none => rw [eq] at wm; exact wm.elim
      | some δ2 =>
        rw [eq] at wm
        dsimp only at wm
        rw [bind_assoc'] at wm
        have erh : ER (wd X) (asm.hide D) H' (L2.wipe σ vs) (wipeD δ vs) := ((er1.mono xw).wipe vs).mono e3.w
        refine tPat_ok (M := wd X) q erh r3 eq fun σ2 er2 wi2 => ⟨by rw [wi2 vs hq, wipe_idem], ?_⟩
        obtain ⟨b, Sb, eb, wb⟩ := nox_cases (fun r => WK (wd X) (E σ) asm (del H2 D) r Q) (fun z => z) wm
        refine ⟨asm.hide D, δ2, Sm, s3, er2, ?_⟩
        rw [eb]
        intro as4 H4 b4 e4 s4 q4
        cases q4
        have ec : Ext (asm.hide D) (upd (del H2 D) D (.lst accV)) as4 H4 := by rw [eH]; exact e3.trans e4
        cases b with
        | false =>
          rw [if_neg Bool.false_ne_true] at wb ⊢
          obtain ⟨u1, u2, u3⟩ := Ext.unhide nm nhm ec
          rw [u2] at s4
          exact ⟨hlt, ⟨as4.cells, asm.hid⟩, Sb, accV, accP, u3, by omega, em.trans u1, s4.unhide nhm, tm.mono u1.w, WK.later u1 wb⟩
        | true =>
          rw [if_pos rfl] at wb ⊢
          rw [bind_assoc'] at wb
          obtain ⟨d, Sd, ed, wd'⟩ := nox_cases (fun r => WK (wd X) (E σ) asm (del H2 D) r Q) (fun z => z) wb
          refine ⟨as4, δ2, Sb, s4, er2.mono e4.w, ?_⟩
          rw [ed]
          intro as5 H5 y e5 s5 r5
          have ec5 : Ext (asm.hide D) (upd (del H2 D) D (.lst accV)) as5 H5 := ec.trans e5
          obtain ⟨u1, u2, u3⟩ := Ext.unhide nm nhm ec5
          rw [u2] at s5 r5
          cases d with
          | p n => exact wd'.elim
          | c yv =>
            obtain ⟨bb, eb2, rfl⟩ := r5
            refine ⟨accV, u3, ?_, hlt, ⟨as5.cells, asm.hid⟩, Sd, accV ++ [.ref bb], accP ++ [yv], upd_same, by rw [List.length_append, List.length_singleton]; omega, ?_⟩
            · have hs : sizeLine = 16777216 := by decide
              omega
            rw [del_updu]
            refine ⟨em.trans u1, s5.unhide nhm, (tm.mono u1.w).append (.cons ⟨bb, eb2, rfl⟩ .nil), ?_⟩
            have e : ((lcGoK ck q fc fe (wipeD δ vs) (xs.drop (i + 1)) Sd).bind fun ys S => Res.ok (accP ++ [yv] ++ ys) S) = ((lcGoK ck q fc fe (wipeD δ vs) (xs.drop (i + 1)) Sd).bind fun ys S => Res.ok (yv :: ys) S).bind fun ys S => Res.ok (accP ++ ys) S := by
              cases lcGoK ck q fc fe (wipeD δ vs) (xs.drop (i + 1)) Sd <;> simp [Res.bind]
            rw [e]
            exact WK.later u1 wd'
    · have hi' : i = xs.length := by omega
      subst hi'
      rw [List.drop_length] at wm
      unfold lcGoK at wm
      have hck : ck Sm := by
        refine Classical.byContradiction fun n => ?_
        rw [if_neg n] at wm
        exact wm
      rw [if_pos hck] at wm
      refine .inl ⟨y1.stop _ _ _ xw sh hck, ?_⟩
      have wq : WK (wd X) (E σ) asm (del H2 D) (Res.ok (accP ++ []) Sm) Q := wm
      rw [List.append_nil] at wq
      have := wq.here sm (by have hs : sizeLine = 16777216 := by decide
                             omega) tm nm
      rw [eH] at this
      exact this
theorem fk_lc (g : Gd X E) (hN : X.N.Nodup) (hi : DI X E tg iter fi) (ok : BlkOk X.N X.env.scope scope own)
    (hg : ∀ (s : Shared) (H : Hp) (C : Addr) (cl : List (Str × Addr)) (fp : List Addr), DG (X.blk s H scope (compEnvC scope cl C X.env) fp) tg q) (ht : ∀ (s : Shared) (H : Hp) (C : Addr) (cl : List (Str × Addr)) (fp : List Addr), DTs (X.blk s H scope (compEnvC scope cl C X.env) fp) EN ifs fc)
    (he : ∀ (s : Shared) (H : Hp) (C : Addr) (cl : List (Str × Addr)) (fp : List Addr), DE (X.blk s H scope (compEnvC scope cl C X.env) fp) EN elt fe) (hq : ∀ i ∈ q.slots, i ∈ own.map (·.2)) (hs : ∀ x, foldedSetIterable iter X.env x = pure x := by intro _; rfl) :
    FK X E (.ListComp elt [⟨tg, iter, ifs, 0⟩] scope pos) (dLcK fi q fc fe (own.map (·.2))) :=
  L2.PE.imp (pe_lc g.calm hN hi ok hg ht he hs) fun σ H Q ⟨as, δ, S, sr, er, w⟩ => lc_tN hq sr er w
/-- y = [.. for ..], cells in it -/
def dSetN (i : Nat) (f : Sig → AH → Res (List Nat)) : Sig → AH → Out := fun δ S => (dNest f δ S).out δ fun d S => .nx (δ.set i (some d)) S
theorem ds_setLcN {i : Nat} {y : Str} {py spos : Pos} (g : Gd X E) (hN : X.N.Nodup) (hy : X.N[i]? = some y) (hyl : X.env.scope.names.lookup y = some .local)
    (hsw : swapsWith (.ListComp elt [⟨tg, iter, ifs, 0⟩] scope pos) (some (.Name y py)) spos.line X.env = pure true) (hi : DI X E tg iter fi) (ok : BlkOk X.N X.env.scope scope own)
    (hg : ∀ (s : Shared) (H : Hp) (C : Addr) (cl : List (Str × Addr)) (fp : List Addr), DG (X.blk s H scope (compEnvC scope cl C X.env) fp) tg q) (ht : ∀ (s : Shared) (H : Hp) (C : Addr) (cl : List (Str × Addr)) (fp : List Addr), DTs (X.blk s H scope (compEnvC scope cl C X.env) fp) EN ifs fc)
    (he : ∀ (s : Shared) (H : Hp) (C : Addr) (cl : List (Str × Addr)) (fp : List Addr), DE (X.blk s H scope (compEnvC scope cl C X.env) fp) EN elt fe) (hq : ∀ i ∈ q.slots, i ∈ own.map (·.2)) (hs : ∀ x, foldedSetIterable iter X.env x = pure x := by intro _; rfl) :
    DS X E (.Assign [.Name y py] (.ListComp elt [⟨tg, iter, ifs, 0⟩] scope pos) spos) (dSetN i (dLcK fi q fc fe (own.map (·.2)))) :=
  (ps_setLc g.calm hN hy hyl hsw hi ok hg ht he hs).imp fun D σ H ⟨as, δ, S, sr, er, w⟩ => lc_tN hq sr er (WK.nest ((w.bind er).mono fun _ _ _ _ v _ _ _ _ ⟨as1, S1, d1, _, x1, s1, r1, w1⟩ => w1.here s1 ((er.mono x1.w).set r1 i)))
end
/-! ### list(range(..)) -/
def rgI (i j : Int) : List Int := (List.range (j - i).toNat).map fun (k : Nat) => i + (k : Int)
open Classical in
def dLstRg (fa fb : Sig → AH → Res DV) : Sig → AH → Res (List PV) := fun δ S => (fa δ S).bind fun a S => (fb δ S).bind fun b S => match a, b with
  | .p (.int i), .p (.int j) => if RgOk i j then .ok ((rgI i j).map PV.int) S else .bad
  | _, _ => .bad
theorem rgV_map (i j : Int) : rgV i j = (rgI i j).map V.int := by
  unfold rgV rgI
  rw [List.map_map]
  rfl
section
variable {X : Cx} {E : L2.St → XK} {a b : Expr} {p p2 pos pos2 : Pos} {fa fb : Sig → AH → Res DV}
theorem fe_lrg2 (g : Gd X E) (hg : Gl X "list") (hm : X.mg "list" = none) (hg2 : Gl X "range") (hm2 : X.mg "range" = none) (ha : DE X E a fa) (hb : DE X E b fb) (na : starEach [a, b] X.env = (false, eval a X.env) :: starEach [b] X.env := by rfl) (nb : starEach [b] X.env = (false, eval b X.env) :: starEach [] X.env := by rfl) (hpr : (backTo pos2 (starEach [b] X.env)).any (·.1) = false := by rfl)
    (ne : starEach [.Call (.Name "range" p2) [a, b] [] pos2] X.env = (false, eval (.Call (.Name "range" p2) [a, b] [] pos2) X.env) :: starEach [] X.env := by rfl) :
    FE X E (.Call (.Name "list" p) [.Call (.Name "range" p2) [a, b] [] pos2] [] pos) (dLstRg fa fb) := (pe_listRg g.calm hg hm (prg_2 hg2 hm2 ha hb na nb hpr) ne).imp fun σ H Q ⟨as, δ, S, sr, er, w⟩ =>
  ⟨as, δ, S, sr, er, (WF.bind w).mono fun _ _ _ _ v _ _ _ _ ⟨as1, S1, d1, _, x1, s1, r1, w1⟩ => ⟨as1, δ, S1, s1, er.mono x1.w, (WF.bind w1).mono fun _ _ _ _ u _ _ _ _ ⟨as2, S2, d2, _, x2, s2, r2, w2⟩ => by
    have r1' := r1.mono x2.w
    split at w2
    · cases r1'; cases r2
      split at w2
      · rename_i z
        refine ⟨_, _, rfl, rfl, z, fun q n => ?_⟩
        rw [rgV_map]
        refine w2.here s2 ?_ (PRs.of_ints _) n
        rw [← rgV_map, rgV_length]
        exact z.2.2.2.2
      · exact w2.elim
    · exact w2.elim⟩⟩
end
end
end DL
namespace DL
noncomputable section
open PySem L2
section
variable {δ : Sig} {S : AH} {fa : Sig → AH → Res DV} {fs : Sig → AH → Res (List DV)} {fk : Sig → AH → Res (List Nat)} {q : Pat} {fi : Sig → AH → Res Its'} {fc : Sig → AH → Res Bool} {fe : Sig → AH → Res DV}
def kLstRg2 (a b : DV) (S : AH) : Res (List PV) := match a, b with
  | .p (.int i), .p (.int j) => (open Classical in if RgOk i j then .ok ((rgI i j).map PV.int) S else .bad)
  | _, _ => .bad
def kLstRg (fb : Sig → AH → Res DV) (δ : Sig) (a : DV) (S : AH) : Res (List PV) := (fb δ S).bind (kLstRg2 a)
@[simp] theorem ev_lstRg {fb : Sig → AH → Res DV} : dLstRg fa fb δ S = (fa δ S).bind (kLstRg fb δ) := (rfl)
@[simp] theorem ev_kLstRg {fb : Sig → AH → Res DV} {a : DV} : kLstRg fb δ a S = (fb δ S).bind (kLstRg2 a) := (rfl)
theorem kLstRg2_ok {i j : Int} (h : RgOk i j) : kLstRg2 (.p (.int i)) (.p (.int j)) S = .ok ((rgI i j).map PV.int) S := by
  unfold kLstRg2
  dsimp only
  rw [if_pos h]
def kNest (ks : List Nat) (S : AH) : Res DV := .ok (.c S.length) (S ++ [.nst ks])
@[simp] theorem ev_nest : dNest fk δ S = (fk δ S).bind kNest := (rfl)
@[simp] theorem ev_kNest {ks : List Nat} : kNest ks S = .ok (.c S.length) (S ++ [.nst ks]) := (rfl)
@[simp] theorem ev_setN {i : Nat} : dSetN i fk δ S = (dNest fk δ S).out δ (jSet i δ) := (rfl)
def kLstK (ds : List DV) (S : AH) : Res (List Nat) := match cells ds with
  | some ks => if ks.length ≤ 1000 then .ok ks S else .bad
  | none => .bad
@[simp] theorem ev_lstK : dLstK fs δ S = (fs δ S).bind kLstK := (rfl)
@[simp] theorem kLstK0 : kLstK [] S = .ok [] S := (rfl)
@[simp] theorem kLstK1 {a : Nat} : kLstK [.c a] S = .ok [a] S := (rfl)
@[simp] theorem kLstK2 {a b : Nat} : kLstK [.c a, .c b] S = .ok [a, b] S := (rfl)
@[simp] theorem kLstK3 {a b c : Nat} : kLstK [.c a, .c b, .c c] S = .ok [a, b, c] S := (rfl)
def kLcK (q : Pat) (fc : Sig → AH → Res Bool) (fe : Sig → AH → Res DV) (vs : List Nat) (δ : Sig) (x : Its') (S : AH) : Res (List Nat) := if x.1.length ≤ 16777216 then lcGoK x.2 q fc fe (wipeD δ vs) x.1 S else .bad
@[simp] theorem ev_lcK {vs : List Nat} : dLcK fi q fc fe vs δ S = (fi δ S).bind (kLcK q fc fe vs δ) := (rfl)
theorem ev_kLcK {vs : List Nat} {xs : List DV} {ck : AH → Prop} (h : xs.length ≤ 16777216) : kLcK q fc fe vs δ (xs, ck) S = lcGoK ck q fc fe (wipeD δ vs) xs S := by
  unfold kLcK
  rw [if_pos h]
theorem lcK_nil {ck : AH → Prop} (h : ck S) : lcGoK ck q fc fe δ [] S = .ok [] S := by
  unfold lcGoK
  rw [if_pos h]
def kLcCK (y : Nat) (ys : List Nat) (S : AH) : Res (List Nat) := .ok (y :: ys) S
theorem lcK_take {ck : AH → Prop} {x : DV} {y : Nat} {xs : List DV} {δ2 : Sig} {S1 S2 : AH} (h : ck S) (hq : q.set x δ = some δ2) (hc : fc δ2 S = .ok true S1) (he : fe δ2 S1 = .ok (.c y) S2) :
    lcGoK ck q fc fe δ (x :: xs) S = (lcGoK ck q fc fe δ xs S2).bind (kLcCK y) := by
  rw [show lcGoK ck q fc fe δ (x :: xs) S = _ from by unfold lcGoK; rfl, if_pos h]
  simp only [hq, hc, nox_ok, Res.bind_ok, if_true, he]
  rfl
/-- a comprehension of new flat lists -/
theorem lcK_cells (g : PV → List PV) : ∀ {xs : List PV} {S : AH}, (∀ x ∈ xs, ∀ S, ∃ δ2, q.set (.p x) δ = some δ2 ∧ fe δ2 S = .ok (.c S.length) (S ++ [.lst (g x)])) → lcGoK ckT q dYes fe δ (dit xs) S = .ok (List.range' S.length xs.length) (S ++ xs.map fun x => Cell.lst (g x))
  | [], S, _ => by rw [dit_nil, lcK_nil trivial]; simp
  | x :: xs, S, h => by
    obtain ⟨δ2, h1, h2⟩ := h x List.mem_cons_self S
    rw [dit_cons, lcK_take trivial h1 rfl h2, lcK_cells g fun y hy => h y (List.mem_cons_of_mem _ hy)]
    simp [kLcCK, List.range'_succ]
end
/-! ### a nest of flat lists above R -/
structure NestK (R S : AH) (n : Nat) (ks : List Nat) (rs : List (List PV)) : Prop where
  pre : S.take R.length = R
  nst : S[n]? = some (.nst ks)
  len : ks.length = rs.length
  lo : R.length ≤ n
  klo : ∀ k ∈ ks, R.length ≤ k
  nd : ks.Nodup
  nk : n ∉ ks
  row : ∀ i k, ks[i]? = some k → S[k]? = some (Cell.lst (rs.getD i []))
def Nest (R S : AH) (n : Nat) (rs : List (List PV)) : Prop := ∃ ks, NestK R S n ks rs
theorem okC_take {m : Nat} {R S : AH} (h : S.take R.length = R) : okC m R S := by
  have e : S = R ++ S.drop R.length := by
    have := List.take_append_drop R.length S
    rw [h] at this
    exact this.symm
  rw [e]
  exact okC_app m R _
theorem take_set {R S : AH} {k : Nat} {c : Cell} (h : S.take R.length = R) (hk : R.length ≤ k) : (S.set k c).take R.length = R := by
  rw [List.take_set, h, List.set_eq_of_length_le hk]
theorem take_more {R S J : AH} (h : S.take R.length = R) : (S ++ J).take R.length = R := by
  have hl : R.length ≤ S.length := by
    have := congrArg List.length h
    rw [List.length_take] at this
    omega
  rw [List.take_append_of_le_length hl, h]
section
variable {R S : AH} {n : Nat} {rs : List (List PV)}
theorem Nest.pre (h : Nest R S n rs) : S.take R.length = R := h.choose_spec.pre
theorem Nest.lenO (h : Nest R S n rs) : lenO [.c n] S = some (.p (.int rs.length), S) := by
  obtain ⟨ks, h⟩ := h
  unfold DL.lenO items nitems
  simp only [h.nst, h.len]
theorem Nest.ix (h : Nest R S n rs) {i : Nat} (hi : i < rs.length) : ∃ k, ixO (.c n) (.p (.int (i : Int))) S = some (.c k, S) ∧ S[k]? = some (Cell.lst (rs.getD i [])) ∧ R.length ≤ k ∧ k ≠ n ∧ ∀ xs, Nest R (S.set k (.lst xs)) n (rs.set i xs) := by
  obtain ⟨ks, h⟩ := h
  have hk : i < ks.length := by rw [h.len]; exact hi
  have e := List.getElem?_eq_getElem hk
  have hm : ks[i] ∈ ks := List.getElem_mem hk
  have ne : ks[i] ≠ n := fun z => h.nk (by rw [← z]; exact hm)
  refine ⟨ks[i], ?_, h.row i _ e, h.klo _ hm, ne, fun xs => ⟨ks, take_set h.pre (h.klo _ hm), by rw [List.getElem?_set_ne ne]; exact h.nst, by rw [List.length_set]; exact h.len, h.lo, h.klo, h.nd, h.nk, fun j k ej => ?_⟩⟩
  · unfold ixO items nitems
    have a : atI ks (i : Int) = some ks[i] := by
      unfold atI ixN
      rw [if_pos (by omega), if_pos (by omega)]
      simp [e]
    simp only [h.nst, a, Option.map_some]
  · by_cases z : i = j
    · subst z
      rw [e] at ej; cases ej
      have hs : ks[i] < S.length := (List.getElem?_eq_some_iff.mp (h.row i _ e)).1
      rw [List.getElem?_set_self hs]
      simp [hi]
    · have hj : j < ks.length := (List.getElem?_eq_some_iff.mp ej).1
      have ne2 : ks[i] ≠ k := fun w => by
        rw [List.getElem?_eq_getElem hj] at ej
        exact z ((List.getElem_inj h.nd).mp (by rw [w]; exact (Option.some.inj ej).symm))
      rw [List.getElem?_set_ne ne2, h.row j k ej]
      simp [List.getElem?_set_ne z]
/-- a new row -/
theorem Nest.push (h : Nest R S n rs) (xs : List PV) (z : rs.length < 16777216) : ∃ S', appendM (.c n) [.c S.length] (S ++ [Cell.lst xs]) = some (.p .non, S') ∧ Nest R S' n (rs ++ [xs]) := by
  obtain ⟨ks, h⟩ := h
  have hn : n < S.length := (List.getElem?_eq_some_iff.mp h.nst).1
  have hl : R.length ≤ S.length := by
    have := congrArg List.length h.pre
    rw [List.length_take] at this
    omega
  have e : (S ++ [Cell.lst xs])[n]? = some (.nst ks) := by rw [List.getElem?_append_left hn]; exact h.nst
  have kl : ∀ k ∈ ks, k < S.length := fun k hk => by
    obtain ⟨j, hj⟩ := List.mem_iff_getElem?.mp hk
    exact (List.getElem?_eq_some_iff.mp (h.row j k hj)).1
  refine ⟨(S ++ [Cell.lst xs]).set n (Cell.nst (ks ++ [S.length])), ?_, ks ++ [S.length], take_set (take_more h.pre) h.lo, ?_, by rw [List.length_append, List.length_append, h.len]; rfl, h.lo, fun k hk => ?_, ?_, fun hk => ?_, fun j k ej => ?_⟩
  · unfold appendM
    simp only [e]
    rw [if_pos (by rw [h.len]; exact z)]
  · rw [List.getElem?_set_self (by rw [List.length_append]; omega)]
  · rcases List.mem_append.mp hk with hk | hk
    · exact h.klo k hk
    · rcases List.mem_singleton.mp hk with rfl
      exact hl
  · refine List.nodup_append.mpr ⟨h.nd, by simp, fun a ha b hb => ?_⟩
    rcases List.mem_singleton.mp hb with rfl
    exact Nat.ne_of_lt (kl a ha)
  · rcases List.mem_append.mp hk with hk | hk
    · exact h.nk hk
    · have : n = S.length := by simpa using hk
      omega
  · by_cases hj : j < ks.length
    · rw [List.getElem?_append_left hj] at ej
      have hm := List.mem_of_getElem? ej
      have ne : n ≠ k := fun w => h.nk (by rw [w]; exact hm)
      rw [List.getElem?_set_ne ne, List.getElem?_append_left (kl k hm), h.row j k ej]
      have : j < rs.length := by rw [← h.len]; exact hj
      simp [List.getElem?_append_left this]
    · have hj2 : j < (ks ++ [S.length]).length := (List.getElem?_eq_some_iff.mp ej).1
      rw [List.length_append, List.length_singleton] at hj2
      have : j = ks.length := by omega
      subst this
      rw [List.getElem?_append_right (Nat.le_refl _), Nat.sub_self] at ej
      have : S.length = k := by simpa using ej
      subst this
      rw [List.getElem?_set_ne (by omega), List.getElem?_append_right (Nat.le_refl _), Nat.sub_self]
      rw [h.len]
      simp
theorem Nest.meth {o : OpM} {fs : Sig → AH → Res (List DV)} {δ : Sig} (h : Nest R S n rs) : kMeth o fs δ (.c n) S = (fs δ S).bind (kMeth2 o (.c n)) := by
  obtain ⟨ks, h⟩ := h
  refine ev_kMethN (ks := ks) ?_
  unfold nitems
  simp only [h.nst]
theorem frzCs_of {m : Nat} {S : AH} : ∀ {ks : List Nat} {rs : List (List PV)}, ks.length = rs.length → (∀ i k, ks[i]? = some k → m ≤ k ∧ S[k]? = some (Cell.lst (rs.getD i []))) → frzCs m S ks = some (rs.map PV.lst)
  | [], [], _, _ => rfl
  | [], _ :: _, h, _ => by simp at h
  | _ :: _, [], h, _ => by simp at h
  | k :: ks, r :: rs, h, hr => by
    obtain ⟨h1, h2⟩ := hr 0 k rfl
    have e1 : frzC m S k = some (.lst r) := by
      unfold frzC
      rw [if_pos h1]
      simp only [h2]
      rfl
    have e2 := frzCs_of (m := m) (S := S) (ks := ks) (rs := rs) (by simpa using h) fun i k' e => by
      have := hr (i + 1) k' (by simpa using e)
      simpa using this
    simp [frzCs, e1, e2]
theorem Nest.frz (h : Nest R S n rs) : frzD R.length S (.c n) = some (.lst (rs.map PV.lst)) := by
  obtain ⟨ks, h⟩ := h
  unfold frzD
  dsimp only
  rw [if_pos h.lo]
  simp only [h.nst]
  rw [frzCs_of h.len fun i k e => ⟨h.klo k (List.mem_of_getElem? e), h.row i k e⟩]
  rfl
/-- lists from a comprehension, then the nest -/
theorem nest_new (R : AH) (rs : List (List PV)) : Nest R (R ++ rs.map Cell.lst ++ [Cell.nst (List.range' R.length rs.length)]) (R.length + rs.length) rs := by
  refine ⟨List.range' R.length rs.length, ?_, ?_, by simp, by omega, fun k hk => ?_, List.nodup_range', fun hk => ?_, fun i k e => ?_⟩
  · rw [List.append_assoc, List.take_append_of_le_length (Nat.le_refl _), List.take_length]
  · rw [List.getElem?_append_right (by simp)]
    simp
  · have := List.mem_range'_1.mp hk
    omega
  · have := List.mem_range'_1.mp hk
    omega
  · have hi : i < rs.length := by
      have := (List.getElem?_eq_some_iff.mp e).1
      simpa using this
    have ek : k = R.length + i := by
      have := (List.getElem?_eq_some_iff.mp e).2
      simp at this
      omega
    subst ek
    rw [List.getElem?_append_left (by simp; omega), List.getElem?_append_right (by omega), Nat.add_sub_cancel_left]
    simp [hi]
end
end
end DL
namespace DL
noncomputable section
open PySem L2
section
variable {S : AH} {fb : Sig → AH → Out} {i : Nat} {d : DV}
/-- a loop that gives a value back at the first item that fails -/
theorem for_guardL (I : Sig → Prop) (b : PV → Bool) : ∀ {xs : List PV} {δ : Sig}, I δ → (∀ x ∈ xs, ∀ δ, I δ → (b x = true → ∃ δ', I δ' ∧ fb (δ.set i (some (.p x))) S = .nx δ' S) ∧ (b x = false → fb (δ.set i (some (.p x))) S = .rt d S)) →
    (xs.all b = true → ∃ δ', I δ' ∧ forGo ckT (.nm i) fb (dit xs) δ S = .nx δ' S) ∧ (xs.all b = false → forGo ckT (.nm i) fb (dit xs) δ S = .rt d S)
  | [], δ, h, _ => ⟨fun _ => ⟨δ, h, by rw [dit_nil, for_nil]⟩, fun e => by simp at e⟩
  | x :: xs, δ, h, st => by
    obtain ⟨s1, s2⟩ := st x List.mem_cons_self δ h
    rw [dit_cons, for_nm, List.all_cons]
    cases e : b x with
    | false =>
      rw [s2 e, after_rt]
      exact ⟨fun z => by simp at z, fun _ => rfl⟩
    | true =>
      obtain ⟨δ1, h1, e1⟩ := s1 e
      rw [e1, after_nx, Bool.true_and]
      exact for_guardL I b h1 fun y hy => st y (List.mem_cons_of_mem _ hy)
theorem for_guard (I : Sig → Prop) : ∀ {n : Nat} {lo : Int} {b : Nat → Bool} {δ : Sig}, I δ → (∀ k < n, ∀ δ, I δ → (b k = true → ∃ δ', I δ' ∧ fb (δ.set i (some (.p (.int (lo + (k : Int)))))) S = .nx δ' S) ∧ (b k = false → fb (δ.set i (some (.p (.int (lo + (k : Int)))))) S = .rt d S)) →
    ((List.range n).all b = true → ∃ δ', I δ' ∧ forGo ckT (.nm i) fb (rangeI lo n) δ S = .nx δ' S) ∧ ((List.range n).all b = false → forGo ckT (.nm i) fb (rangeI lo n) δ S = .rt d S)
  | 0, lo, b, δ, h, _ => ⟨fun _ => ⟨δ, h, for_nil⟩, fun e => by simp at e⟩
  | n + 1, lo, b, δ, h, st => by
    obtain ⟨s1, s2⟩ := st 0 (by omega) δ h
    rw [show lo + ((0 : Nat) : Int) = lo by simp] at s1 s2
    have er : (List.range (n + 1)).all b = (b 0 && (List.range n).all fun k => b (k + 1)) := by
      rw [List.range_succ_eq_map, List.all_cons, List.all_map]; rfl
    rw [range_succ, for_nm, er]
    cases e : b 0 with
    | false =>
      rw [s2 e, after_rt]
      exact ⟨fun z => by simp at z, fun _ => rfl⟩
    | true =>
      obtain ⟨δ1, h1, e1⟩ := s1 e
      rw [e1, after_nx, Bool.true_and]
      exact for_guard I (lo := lo + 1) (b := fun k => b (k + 1)) h1 fun k hk δ hδ => by
        have := st (k + 1) (by omega) δ hδ
        rwa [show lo + ((k + 1 : Nat) : Int) = lo + 1 + (k : Int) by omega] at this
end
theorem rg_len (n : Nat) (h : n ≤ 1000000) (S : AH) : kRng1 [.p (.int (n : Int))] S = .ok (rangeI 0 n, ckT) S := by
  have e : small62 (n : Int) := small62_of (by omega)
  rw [kRng1_ok e, Int.toNat_natCast]
theorem rg_two (m n : Nat) (h : n ≤ 1000000) (h2 : m ≤ 1000000) (S : AH) : kRng2 [.p (.int (m : Int)), .p (.int (n : Int))] S = .ok (rangeI m (n - m), ckT) S := by
  rw [kRng2_ok (small62_of (by omega)) (small62_of (by omega))]
  congr 3
  omega
theorem asg2 {a b : Nat} {x y : PV} {δ : Sig} {S : AH} : jAsg (.tp [.nm a, .nm b]) δ (.p (.tup [x, y])) S = .nx ((δ.set a (some (.p x))).set b (some (.p y))) S := ev_jAsg rfl
theorem datas_ints : ∀ ns : List Int, PV.datas (ns.map PV.int) = some (ns.map PyData.int)
  | [] => by simp [PV.datas]
  | n :: ns => by simp [PV.datas, PV.data, datas_ints ns]
theorem eqvAll_ints : ∀ as bs : List Int, PyData.eqvAll (as.map PyData.int) (bs.map PyData.int) = decide (as = bs)
  | [], [] => by simp [PyData.eqvAll]
  | [], b :: bs => by simp [PyData.eqvAll]
  | a :: as, [] => by simp [PyData.eqvAll]
  | a :: as, b :: bs => by
    rw [List.map_cons, List.map_cons, PyData.eqvAll, eqvAll_ints as bs, eqv_int]
    by_cases h : a = b
    · by_cases h2 : as = bs <;> simp [h, h2]
    · simp [h]
theorem sh_ints (ns : List Int) : SeqAt.shaped (.list (ns.map PyData.int)) = true := by
  obtain ⟨d, h1, h2⟩ := fit_shaped (x := .lst (ns.map PV.int)) (n := 1) (fit_ints ns) (by decide)
  have : PV.data (.lst (ns.map PV.int)) = some (.list (ns.map PyData.int)) := by simp [PV.data, datas_ints]
  rw [this] at h1
  cases h1
  exact h2
theorem eqO_ints {as bs : List Int} {S : AH} : eqO (.p (.lst (as.map PV.int))) (.p (.lst (bs.map PV.int))) S = some (.p (.bl (decide (as = bs))), S) := by
  have e : PyData.eqv (.list (as.map PyData.int)) (.list (bs.map PyData.int)) = decide (as = bs) := by rw [PyData.eqv]; exact eqvAll_ints as bs
  unfold eqO dataOf
  simp only [PV.data, datas_ints, Option.map_some, eqDat, sh_ints, and_self, if_true, e]
theorem neO_ints {as bs : List Int} {S : AH} : neO (.p (.lst (as.map PV.int))) (.p (.lst (bs.map PV.int))) S = some (.p (.bl (!decide (as = bs))), S) := by
  have e : PyData.eqv (.list (as.map PyData.int)) (.list (bs.map PyData.int)) = decide (as = bs) := by rw [PyData.eqv]; exact eqvAll_ints as bs
  unfold neO dataOf
  simp only [PV.data, datas_ints, Option.map_some, eqDat, sh_ints, and_self, if_true, e]
theorem eqv_bl (a b : Bool) : PyData.eqv (.bool a) (.bool b) = decide (a = b) := by
  cases a <;> cases b <;> simp [PyData.eqv]
@[simp] theorem eqO_bl {a b : Bool} {S : AH} : eqO (.p (.bl a)) (.p (.bl b)) S = some (.p (.bl (decide (a = b))), S) := by
  have h1 : SeqAt.shaped (.bool a) = true := rfl
  have h2 : SeqAt.shaped (.bool b) = true := rfl
  unfold eqO dataOf
  simp only [PV.data, eqDat, h1, h2, and_self, if_true, Option.map_some, eqv_bl]
theorem sorted_c {n : Nat} {ns : List Int} {S : AH} (h : S[n]? = some (.lst (ns.map PV.int))) : sortedF [.c n] S = some ((sortI ns).map PV.int) := by
  unfold sortedF
  simp only [litems_c h, intsOf_map]
theorem sorted_lst {ns : List Int} {S : AH} : sortedF [.p (.lst (ns.map PV.int))] S = some ((sortI ns).map PV.int) := by
  unfold sortedF
  simp only [litems_lst, intsOf_map]
end
end DL
namespace DL
noncomputable section
open PySem PySem.Spec PyProof.Rows L2

/-! ### a call of a value that is a def -/
abbrev FTab := List (Str × (List DV → AH → Res DV))
def dCallV (tab : FTab) (fa : Sig → AH → Res DV) (fs : Sig → AH → Res (List DV)) : Sig → AH → Res DV := fun δ S => (fa δ S).bind fun d S => match d with
  | .p (.glob n) => match tab.lookup n with
    | some F => (fs δ S).bind fun ds S => F ds S
    | none => .bad
  | _ => .bad
inductive TabOk (X : Cx) : FTab → Prop
  | nil : TabOk X []
  | cons {n : Str} {F : List DV → AH → Res DV} {tab : FTab} {k : Nat} {f : Addr} {fd : FuncData} {ps : List Str} : FnOk X.prog X.w X.K X.mg X.base (L2.CX X.prog X.w) k f fd ps (spD ⟨X.K, X.mg⟩ F) → Room k X.A → X.mg n = some (.ref f) → PySem.W.keepIn X.K (.ref f) = true → Binds X.K fd ps [] → TabOk X tab → TabOk X ((n, F) :: tab)
theorem TabOk.at {X : Cx} {n : Str} {F : List DV → AH → Res DV} : ∀ {tab : FTab}, TabOk X tab → tab.lookup n = some F → ∃ k f fd ps, FnOk X.prog X.w X.K X.mg X.base (L2.CX X.prog X.w) k f fd ps (spD ⟨X.K, X.mg⟩ F) ∧ Room k X.A ∧ X.mg n = some (.ref f) ∧ PySem.W.keepIn X.K (.ref f) = true ∧ Binds X.K fd ps []
  | _, .nil, e => by cases e
  | _, .cons (n := m) (F := G) a b c d h t, e => by
    rw [List.lookup_cons] at e
    by_cases z : n = m
    · subst z
      simp at e
      subst e
      exact ⟨_, _, _, _, a, b, c, d, h⟩
    · have z' : (n == m) = false := by simpa using z
      rw [z'] at e
      exact TabOk.at t e
section
variable {X : Cx} {E : L2.St → XK} {fn a : Expr} {es : List Expr} {pos : Pos} {fa : Sig → AH → Res DV} {fs : Sig → AH → Res (List DV)}
/-- the callee is any expression -/
theorem pe_callX {CX : CXT} {tf : TE} {t : TA} (hf : PE X fn tf) (ha : PA X (a :: es) t) (hx : ∀ σ, PassesAt CX X σ (E σ))
    (hc : eval (.Call fn (a :: es) [] pos) X.env = (eval fn X.env >>= fun v => callWith pos v [] (backTo pos (starEach (a :: es) X.env)) (backToKw pos (keywordEach [] X.env)))) (he : starEach (a :: es) X.env = (false, eval a X.env) :: starEach es X.env) (hpl : (backTo pos (starEach es X.env)).any (·.1) = false) :
    PE X (.Call fn (a :: es) [] pos) (fun σ H Q => tf σ H fun v H1 => ∃ k f fd ps sp, FnOk X.prog X.w X.K X.mg X.base CX k f fd ps sp ∧ Room k X.A ∧ PySem.W.keepIn X.K (.ref f) = true ∧ Binds X.K fd ps [] ∧ v = .ref f ∧ t σ H1 fun vs H2 => sp vs H2 Q (E σ)) := by
  refine ⟨fun pins s σ H Q I h => ?_⟩
  rw [hc]
  refine wpAny_bind (thn (hf.run pins s σ H _ I h) fun u s1 ⟨v, H1, I1, r1, k, f, fd, ps, sp, F, hr, hk, hb, ev, ht⟩ => ?_)
  subst ev
  obtain rfl : u = Value.ref f := r1
  refine PySem.W.callWith_K (h₀ := X.base) I1.ok.mod.kin hk (thn (ha.run pos pins s1 σ _ _ I1 ht) fun us s2 ⟨vs, H2, I2, r, q⟩ => ⟨I2.kIn, ?_⟩) he hpl
  exact run_fnS F hr hb (hx σ) I2 r q
theorem de_callV {tab : FTab} (g : Gd X E) (T : TabOk X tab) (hf : DE X E fn fa) (ha : DA X E (a :: es) fs)
    (hc : eval (.Call fn (a :: es) [] pos) X.env = (eval fn X.env >>= fun v => callWith pos v [] (backTo pos (starEach (a :: es) X.env)) (backToKw pos (keywordEach [] X.env))) := by rfl) (he : starEach (a :: es) X.env = (false, eval a X.env) :: starEach es X.env := by rfl) (hpl : (backTo pos (starEach es X.env)).any (·.1) = false := by rfl) :
    DE X E (.Call fn (a :: es) [] pos) (dCallV tab fa fs) := (pe_callX hf ha (fun σ => g.pass σ) hc he hpl).imp fun σ H Q ⟨as, δ, S, sr, er, w⟩ =>
  ⟨as, δ, S, sr, er, w.bind.mono fun _ _ _ _ v _ _ _ _ ⟨as1, S1, d1, _, x1, s1, r1, w1⟩ => by
    cases d1 with
    | c n => exact w1.elim
    | p x =>
      cases x with
      | glob n =>
        dsimp only at w1
        cases e : tab.lookup n with
        | none => rw [e] at w1; exact w1.elim
        | some F =>
          rw [e] at w1
          obtain ⟨k, f, fd, ps, h1, h2, h3, h4, h5⟩ := T.at e
          have ev : v = .ref f := by
            cases r1 with
            | glob m r =>
              cases h3.symm.trans (show X.mg n = _ from m)
              cases v <;> simp [L2.RelV] at r
              rw [r]
          exact ⟨k, f, fd, ps, _, h1, h2, h4, h5, ev, as1, δ, S1, s1, er.mono x1.w, w1.bind.mono fun _ _ _ _ _ _ _ _ _ ⟨as2, S2, ds, _, x2, s2, r2, w2⟩ => ⟨as2, ds, S2, s2, r2, w2⟩⟩
      | _ => exact w1.elim⟩
end
@[simp] theorem ev_callV {tab : FTab} {fa : Sig → AH → Res DV} {fs : Sig → AH → Res (List DV)} {δ : Sig} {S S1 : AH} {n : Str} {F : List DV → AH → Res DV} (h : fa δ S = .ok (.p (.glob n)) S1) (e : tab.lookup n = some F) : dCallV tab fa fs δ S = (fs δ S1).bind fun ds S => F ds S := by
  unfold dCallV
  rw [h]
  simp [Res.bind, e]
end
end DL
namespace DL
noncomputable section
open PySem PySem.Spec PyProof.Rows L2

/-! ### a tuple taken once -/
theorem tup_once (l : Addr) (its : Array Value) (n : Nat) (dd : Option Addr) (sl : Array (Option Value)) (u : Tok) :
    Meets (Builtin.«tuple.__mul__» ⟨[.ref l, .int 1 u], []⟩) (fun _ R s => s.heap.get? l = some { cls := .type "tuple", dict := dd, data := .seq its n, slots := sl } ∧ R (.ok (.ret (Value.ref l))) s) :=
  .of_wp fun prog w A R s ⟨h1, h2⟩ => by
    obtain ⟨hp, g, d, tk, os⟩ := s
    have f1 := AutoSeq1.idx_int
    have c1 : (its.isEmpty || (1 : Int) == 1) = true := by simp
    wp_walk using wpAny_loadPart' h1
    repeat (first
      | (refine wpAny_ite_false (by decide) ?_; wp_walk using wpAny_loadPart' h1)
      | (refine wpAny_ite_true (by rw [c1]) ?_; wp_walk using wpAny_loadPart' h1))
    exact ⟨_, rfl, h2⟩
section
variable {X : Cx}
theorem op_once : OpR X (binaryOp .Mult) (fun x y H Q => ∃ l xs, x = V.ref l ∧ y = V.int 1 ∧ SqT X.K H l xs ∧ Q (V.ref l) H) := by
  intro pins s σ H x y v u Q I rx ry ⟨l, xs, ex, ey, hT, q⟩
  subst ex ey
  cases rx
  obtain ⟨t, rfl⟩ := ry
  obtain ⟨its, r, ⟨⟨cls, dd, data, sl⟩, ho, hc, n, hd⟩, hs⟩ := I.tuple hT
  simp only at hc hd
  subst hc hd
  exact wpAny_binaryOp_repeat_ref (T := "tuple") (U := "int") (by decide) ⟨_, ho, rfl⟩ (fun s' => typeIs_int s' 1 t) noFill_tuple_mul F.fills_int_mul F.slot_int_rmul repeat_tuple F.slot_int_index.lookup
    (call_meets F.slot_int_rmul (typeIs_int s 1 t) F.entry_int_rmul (F.args_int_rmul_2 _ _) (int_rmul_tuple 1 t l its.toArray n dd sl)
      ⟨ho, rfl, ⟨_, ho, rfl⟩, call_meets F.slot_tuple_mul ⟨_, ho, rfl⟩ F.entry_tuple_mul (F.args_tuple_mul_2 _ _) (tup_once l its.toArray n dd sl t) ⟨ho, .ref l, H, I, rfl, q⟩⟩)
/-- a product, a tuple taken once too -/
def mulO1 : Op2 := fun a b S => match a, b with
  | .p (.tup xs), .p (.int k) => if k = 1 then some (.p (.tup xs), S) else mulO a b S
  | _, _ => mulO a b S
theorem ow_mul1 : OpR X (binaryOp .Mult) (rO (wd X) mulO1) := by
  intro pins s σ H x y v u Q I rx ry h
  obtain ⟨as, S, d1, d2, sr, r1, r2, w⟩ := h
  unfold mulO1 at w
  split at w
  · split at w
    · rename_i z
      subst z
      cases r2
      cases r1 with
      | tup h1 t1 => exact op_once pins s σ H _ _ v u Q I rx ry ⟨_, _, rfl, rfl, h1.sq, w.here sr (.tup h1 t1)⟩
    · exact ow_mul pins s σ H x y v u Q I rx ry ⟨as, S, _, _, sr, r1, r2, w⟩
  · exact ow_mul pins s σ H x y v u Q I rx ry ⟨as, S, _, _, sr, r1, r2, w⟩
end
theorem mulO1_int {i j : Int} {S : AH} (h : mulOk i j) : mulO1 (.p (.int i)) (.p (.int j)) S = some (.p (.int (i * j)), S) := mulO_int h
theorem mulO1_tup {xs : List PV} {k : Int} {S : AH} (h : xs ≠ [] ∧ 1 ≤ k ∧ k ≤ 1000 ∧ xs.length ≤ 1000) : mulO1 (.p (.tup xs)) (.p (.int k)) S = some (.p (.tup (List.replicate k.toNat xs).flatten), S) := by
  show (if k = 1 then _ else _) = _
  split
  · rename_i z
    subst z
    simp
  · exact mulO_tup ⟨h.1, by omega, h.2.2⟩
end
end DL
namespace DL
open PySem PySem.Spec PyProof.Rows L2
def topS (i : Nat) : Stmt := PySem.Challenge.pw_carrierroads_k60_rings_recognized.main.body.getD i (.Pass ⟨0, 0, 0, 0⟩)
def sub_Malformed : Str → Option Bool := fun n => if n = "Malformed" then some true else none
abbrev s_is_integer : Stmt := topS 5
theorem sc_is_integer : FnScope ["value"] ["value"] (defScope s_is_integer) := ⟨rfl, rfl, rfl, by decide +kernel, rfl, by decide +kernel, by decide +kernel⟩
noncomputable def b_is_integer_ : Sig → AH → Out := (dRet (dAndV (dIsi "int" (dVar 0)) (dNotV (dIsi "bool" (dVar 0)))))
noncomputable def d_is_integer : List DV → AH → Res DV := dDef 1 1 false b_is_integer_
abbrev s_is_ring : Stmt := topS 26
theorem sc_is_ring : FnScope ["value", "item"] ["value"] (defScope s_is_ring) := ⟨rfl, rfl, rfl, by decide +kernel, rfl, by decide +kernel, by decide +kernel⟩
noncomputable def b_is_ring_ : Sig → AH → Out := (dSeq (dIf (dOr (dNot (dTru (dIsi "tuple" (dVar 0)))) (dOr (blOf (dBin ltO (dApp lenO (dCons (dVar 0) dNil)) (dC (.int 1)))) (blOf (dBin gtO (dApp lenO (dCons (dVar 0) dNil)) (dC (.int 40)))))) (dRet (dC (.bl false))) dPass)
    (dSeq (dIf (dNot (dTru (dApp allO (dCons (dVal (dLc (dSeqI (dVar 0)) (.nm 1) dYes (dAndV (dCall d_is_integer (dCons (dVar 1) dNil)) (dChain leO leO (dC (.int 0)) (dVar 1) (dC (.int 1)))) [1])) dNil)))) (dRet (dC (.bl false))) dPass)
    (dRet (dBin ltO (dBin mulO1 (dC (.int 2)) (dApp sumO (dCons (dVar 0) dNil))) (dApp lenO (dCons (dVar 0) dNil))))))
noncomputable def d_is_ring : List DV → AH → Res DV := dDef 2 1 false b_is_ring_
abbrev s_check_ring : Stmt := topS 27
theorem sc_check_ring : FnScope ["w"] ["w"] (defScope s_check_ring) := ⟨rfl, rfl, rfl, by decide +kernel, rfl, by decide +kernel, by decide +kernel⟩
noncomputable def b_check_ring_ : Sig → AH → Out := (dIf (dNot (dTru (dCall d_is_ring (dCons (dVar 0) dNil)))) (dRaise "Malformed") dPass)
noncomputable def d_check_ring : List DV → AH → Res DV := dDef 1 1 false b_check_ring_
abbrev s_turned_ring : Stmt := topS 28
theorem sc_turned_ring : FnScope ["w", "d", "at"] ["w", "d"] (defScope s_turned_ring) := ⟨rfl, rfl, rfl, by decide +kernel, rfl, by decide +kernel, by decide +kernel⟩
noncomputable def b_turned_ring_ : Sig → AH → Out := (dSeq (dDrop (dCall d_check_ring (dCons (dVar 0) dNil)))
    (dSeq (dSet 2 (dBin modO (dVar 1) (dApp lenO (dCons (dVar 0) dNil))))
    (dRet (dBin addO (dSl (dVar 0) (dPart (dVar 2)) dNoPart) (dSl (dVar 0) dNoPart (dPart (dVar 2)))))))
noncomputable def d_turned_ring : List DV → AH → Res DV := dDef 3 2 false b_turned_ring_
abbrev s_law_state : Stmt := topS 84
theorem sc_law_state : FnScope ["script", "seed", "total", "cell"] ["script"] (defScope s_law_state) := ⟨rfl, rfl, rfl, by decide +kernel, rfl, by decide +kernel, by decide +kernel⟩
noncomputable def L0_law_state : Sig → AH → Out := (dSeq (dSet 1 (dBin addO (dBin mulO1 (dVar 1) (dC (.int 1000003))) (dApp absO (dCons (dVar 3) dNil))))
    (dSet 2 (dBin modO (dApp intO (dCons (dBin addO (dBin mulO1 (dVar 2) (dC (.int 48271))) (dVar 3)) dNil)) (dC (.int 2147483647)))))
noncomputable def b_law_state_ : Sig → AH → Out := (dSeq (dSet 1 (dC (.int 0)))
    (dSeq (dSet 2 (dC (.int 1)))
    (dSeq (dFor (dSeqI (dSl (dVar 0) dNoPart (dPart (dC (.int 63))))) (.nm 3) L0_law_state)
    (dRet (dCell (dLst (dCons (dVar 1) (dCons (dVar 2) dNil))))))))
noncomputable def d_law_state : List DV → AH → Res DV := dDef 4 1 true b_law_state_
abbrev s_law_odd : Stmt := topS 85
theorem sc_law_odd : FnScope ["value", "item"] ["value"] (defScope s_law_odd) := ⟨rfl, rfl, rfl, by decide +kernel, rfl, by decide +kernel, by decide +kernel⟩
noncomputable def d_law_odd : Nat → List DV → AH → Res DV
  | 0 => fun _ _ => .bad
  | n + 1 => dDef 2 1 false ((dSeq (dIf (blOf (dBin eqO (dVar 0) (dC (.str "a word that nothing else is")))) (dRet (dC (.bl true))) dPass)
    (dRet (dAndV (dIsiT ["tuple", "list"] (dVar 0)) (dBin gtO (dApp lenO (dCons (dVal (dLc (dSeqI (dVar 0)) (.nm 1) (dTru (dCall (d_law_odd n) (dCons (dVar 1) dNil))) (dVar 1) [1])) dNil)) (dC (.int 0)))))))
abbrev s_law_honest : Stmt := topS 86
theorem sc_law_honest : FnScope ["value"] ["value"] (defScope s_law_honest) := ⟨rfl, rfl, rfl, by decide +kernel, rfl, by decide +kernel, by decide +kernel⟩
noncomputable def b_law_honest_ : Sig → AH → Out := (dRet (dIte (dTru (dCall (d_law_odd 8) (dCons (dVar 0) dNil))) (dC (.str "odd")) (dVar 0)))
noncomputable def d_law_honest : List DV → AH → Res DV := dDef 1 1 false b_law_honest_
abbrev s_law_take : Stmt := topS 87
theorem sc_law_take : FnScope ["state", "m", "value"] ["state", "m"] (defScope s_law_take) := ⟨rfl, rfl, rfl, by decide +kernel, rfl, by decide +kernel, by decide +kernel⟩
noncomputable def b_law_take_ : Sig → AH → Out := (dSeq (dIf (blOf (dBin gtO (dBin ixO (dVar 0) (dC (.int 0))) (dC (.int 0)))) (dSeq (dSet 2 (dBin modO (dApp intO (dCons (dBin ixO (dVar 0) (dC (.int 0))) dNil)) (dVar 1)))
    (dSeq (dSub (dBin divO (dBin ixO (dVar 0) (dC (.int 0))) (dVar 1)) (dVar 0) (dC (.int 0)))
    (dRet (dVar 2)))) dPass)
    (dSeq (dSub (dBin modO (dApp intO (dCons (dBin addO (dBin mulO1 (dBin ixO (dVar 0) (dC (.int 1))) (dC (.int 48271))) (dC (.int 11))) dNil)) (dC (.int 2147483647))) (dVar 0) (dC (.int 1)))
    (dRet (dBin modO (dApp intO (dCons (dBin divO (dBin ixO (dVar 0) (dC (.int 1))) (dC (.int 7))) dNil)) (dVar 1)))))
noncomputable def d_law_take : List DV → AH → Res DV := dDef 3 2 false b_law_take_
abbrev s_law_ring : Stmt := topS 88
theorem sc_law_ring : FnScope ["state", "most", "size", "letters", "k", "last", "turn", "free", "at", "behind"] ["state", "most"] (defScope s_law_ring) := ⟨rfl, rfl, rfl, by decide +kernel, rfl, by decide +kernel, by decide +kernel⟩
noncomputable def L0_law_ring : Sig → AH → Out := (dSeq (dSetF 7 (dLc (dRng1 (dCons (dVar 2) dNil)) (.nm 4) (blOf (dBin eqO (dBin ixO (dVar 3) (dVar 4)) (dC (.int 0)))) (dVar 4) [4]))
    (dSeq (dSet 8 (dBin ixO (dVar 7) (dCall d_law_take (dCons (dVar 0) (dCons (dApp lenO (dCons (dVar 7) dNil)) dNil)))))
    (dSeq (dSetF 9 (dLc (dRng1 (dCons (dVar 2) dNil)) (.nm 4) (blOf (dBin eqO (dBin ixO (dVar 3) (dBin modO (dApp intO (dCons (dBin addO (dBin addO (dVar 5) (dC (.int 1))) (dVar 4)) dNil)) (dVar 2))) (dC (.int 0)))) (dBin modO (dApp intO (dCons (dBin addO (dBin addO (dVar 5) (dC (.int 1))) (dVar 4)) dNil)) (dVar 2)) [4]))
    (dSeq (dIf (dAnd (blOf (dBin geO (dVar 5) (dC (.int 0)))) (blOf (dBin ltO (dCall d_law_take (dCons (dVar 0) (dCons (dC (.int 5)) dNil))) (dC (.int 3))))) (dSet 8 (dBin ixO (dVar 9) (dC (.int 0)))) dPass)
    (dSeq (dSub (dC (.int 1)) (dVar 3) (dVar 8))
    (dSet 5 (dVar 8)))))))
noncomputable def b_law_ring_ : Sig → AH → Out := (dSeq (dSet 2 (dBin addO (dC (.int 1)) (dCall d_law_take (dCons (dVar 0) (dCons (dVar 1) dNil)))))
    (dSeq (dSet 3 (dCell (dLc (dRng1 (dCons (dVar 2) dNil)) (.nm 4) dYes (dC (.int 0)) [4])))
    (dSeq (dSet 5 (dUn negO (dC (.int 1))))
    (dSeq (dFor (dRng1 (dCons (dCall d_law_take (dCons (dVar 0) (dCons (dBin divO (dApp intO (dCons (dBin addO (dVar 2) (dC (.int 1))) dNil)) (dC (.int 2))) dNil))) dNil)) (.nm 6) L0_law_ring)
    (dRet (dApp tupleO (dCons (dVar 3) dNil)))))))
noncomputable def d_law_ring : List DV → AH → Res DV := dDef 10 2 false b_law_ring_
abbrev s_law_turned : Stmt := topS 89
theorem sc_law_turned : FnScope ["w", "d", "x"] ["w", "d"] (defScope s_law_turned) := ⟨rfl, rfl, rfl, by decide +kernel, rfl, by decide +kernel, by decide +kernel⟩
noncomputable def b_law_turned_ : Sig → AH → Out := (dRet (dApp tupleO (dCons (dVal (dLc (dRng1 (dCons (dApp lenO (dCons (dVar 0) dNil)) dNil)) (.nm 2) dYes (dBin ixO (dVar 0) (dBin modO (dApp intO (dCons (dBin addO (dVar 2) (dVar 1)) dNil)) (dApp lenO (dCons (dVar 0) dNil)))) [2])) dNil)))
noncomputable def d_law_turned : List DV → AH → Res DV := dDef 3 2 false b_law_turned_
abbrev s_gone_round : Stmt := topS 29
theorem sc_gone_round : FnScope ["w", "l", "held", "found", "item"] ["w", "l", "held"] (defScope s_gone_round) := ⟨rfl, rfl, rfl, by decide +kernel, rfl, by decide +kernel, by decide +kernel⟩
noncomputable def L0_gone_round : Sig → AH → Out := (dIf (dAnd (blOf (dBin eqO (dVar 4) (dC (.int 1)))) (blOf (dBin ltO (dVar 2) (dVar 1)))) (dSeq (dDrop (dMeth appendM (dVar 3) (dCons (dC (.int 0)) dNil)))
    (dSet 2 (dBin addO (dVar 2) (dC (.int 1))))) (dIf (dAnd (blOf (dBin eqO (dVar 4) (dC (.int 0)))) (blOf (dBin gtO (dVar 2) (dC (.int 0))))) (dSeq (dDrop (dMeth appendM (dVar 3) (dCons (dC (.int 1)) dNil)))
    (dSet 2 (dBin subO (dVar 2) (dC (.int 1))))) (dDrop (dMeth appendM (dVar 3) (dCons (dVar 4) dNil)))))
noncomputable def b_gone_round_ : Sig → AH → Out := (dSeq (dSet 3 (dCell (dLst dNil)))
    (dSeq (dFor (dSeqI (dVar 0)) (.nm 4) L0_gone_round)
    (dRet (dTup (dCons (dApp tupleO (dCons (dVar 3) dNil)) (dCons (dVar 2) dNil))))))
noncomputable def d_gone_round : List DV → AH → Res DV := dDef 5 3 false b_gone_round_
abbrev s_is_room : Stmt := topS 22
theorem sc_is_room : FnScope ["value"] ["value"] (defScope s_is_room) := ⟨rfl, rfl, rfl, by decide +kernel, rfl, by decide +kernel, by decide +kernel⟩
noncomputable def b_is_room_ : Sig → AH → Out := (dRet (dAndV (dCall d_is_integer (dCons (dVar 0) dNil)) (dChain leO leO (dC (.int 1)) (dVar 0) (dC (.int 1000)))))
noncomputable def d_is_room : List DV → AH → Res DV := dDef 1 1 false b_is_room_
abbrev s_check_carrier : Stmt := topS 30
theorem sc_check_carrier : FnScope ["w", "l"] ["w", "l"] (defScope s_check_carrier) := ⟨rfl, rfl, rfl, by decide +kernel, rfl, by decide +kernel, by decide +kernel⟩
noncomputable def b_check_carrier_ : Sig → AH → Out := (dSeq (dDrop (dCall d_check_ring (dCons (dVar 0) dNil)))
    (dIf (dNot (dTru (dCall d_is_room (dCons (dVar 1) dNil)))) (dRaise "Malformed") dPass))
noncomputable def d_check_carrier : List DV → AH → Res DV := dDef 2 2 false b_check_carrier_
abbrev s_carried_ring : Stmt := topS 31
theorem sc_carried_ring : FnScope ["w", "l"] ["w", "l"] (defScope s_carried_ring) := ⟨rfl, rfl, rfl, by decide +kernel, rfl, by decide +kernel, by decide +kernel⟩
noncomputable def b_carried_ring_ : Sig → AH → Out := (dSeq (dDrop (dCall d_check_carrier (dCons (dVar 0) (dCons (dVar 1) dNil))))
    (dRet (dBin ixO (dCall d_gone_round (dCons (dVar 0) (dCons (dVar 1) (dCons (dBin ixO (dCall d_gone_round (dCons (dVar 0) (dCons (dVar 1) (dCons (dC (.int 0)) dNil)))) (dC (.int 1))) dNil)))) (dC (.int 0)))))
noncomputable def d_carried_ring : List DV → AH → Res DV := dDef 2 2 false b_carried_ring_
abbrev s_carried_ring_back : Stmt := topS 32
theorem sc_carried_ring_back : FnScope ["w", "l"] ["w", "l"] (defScope s_carried_ring_back) := ⟨rfl, rfl, rfl, by decide +kernel, rfl, by decide +kernel, by decide +kernel⟩
noncomputable def b_carried_ring_back_ : Sig → AH → Out := (dSeq (dDrop (dCall d_check_carrier (dCons (dVar 0) (dCons (dVar 1) dNil))))
    (dRet (dUn revO (dCall d_carried_ring (dCons (dUn revO (dVar 0)) (dCons (dVar 1) dNil))))))
noncomputable def d_carried_ring_back : List DV → AH → Res DV := dDef 2 2 false b_carried_ring_back_
abbrev s_is_high : Stmt := topS 33
theorem sc_is_high : FnScope ["w", "room", "item"] ["w"] (defScope s_is_high) := ⟨rfl, rfl, rfl, by decide +kernel, rfl, by decide +kernel, by decide +kernel⟩
noncomputable def L0_is_high : Sig → AH → Out := (dSeq (dSet 1 (dBin subO (dBin addO (dVar 1) (dC (.int 1))) (dBin mulO1 (dC (.int 2)) (dVar 2))))
    (dIf (blOf (dBin ltO (dVar 1) (dC (.int 0)))) (dRet (dC (.bl false))) dPass))
noncomputable def b_is_high_ : Sig → AH → Out := (dSeq (dDrop (dCall d_check_ring (dCons (dVar 0) dNil)))
    (dSeq (dSet 1 (dC (.int 0)))
    (dSeq (dFor (dSeqI (dVar 0)) (.nm 2) L0_is_high)
    (dRet (dC (.bl true))))))
noncomputable def d_is_high : List DV → AH → Res DV := dDef 3 1 false b_is_high_
abbrev s_least_turn : Stmt := topS 34
theorem sc_least_turn : FnScope ["w", "d"] ["w"] (defScope s_least_turn) := ⟨rfl, rfl, rfl, by decide +kernel, rfl, by decide +kernel, by decide +kernel⟩
noncomputable def b_least_turn_ : Sig → AH → Out := dNever
noncomputable def d_least_turn : List DV → AH → Res DV := dDef 2 1 false b_least_turn_
abbrev s_high_strings : Stmt := topS 35
theorem sc_high_strings : FnScope ["w", "d", "high", "x"] ["w", "d"] (defScope s_high_strings) := ⟨rfl, rfl, rfl, by decide +kernel, rfl, by decide +kernel, by decide +kernel⟩
noncomputable def b_high_strings_ : Sig → AH → Out := dNever
noncomputable def d_high_strings : List DV → AH → Res DV := dDef 4 2 false b_high_strings_
abbrev s_shape_of_ring : Stmt := topS 36
theorem sc_shape_of_ring : FnScope ["w", "length", "_"] ["w"] (defScope s_shape_of_ring) := ⟨rfl, rfl, rfl, by decide +kernel, rfl, by decide +kernel, by decide +kernel⟩
noncomputable def b_shape_of_ring_ : Sig → AH → Out := (dSeq (dDrop (dCall d_check_ring (dCons (dVar 0) dNil)))
    (dRet (dApp tupleO (dCons (dUn revO (dVal (dLc (dSeqI (dCall d_high_strings (dCons (dVar 0) (dCons (dCall d_least_turn (dCons (dVar 0) dNil)) dNil)))) (.tp [(.nm 1), (.nm 2)]) dYes (dVar 1) [1, 2]))) dNil))))
noncomputable def d_shape_of_ring : List DV → AH → Res DV := dDef 3 1 false b_shape_of_ring_
abbrev s_angles : Stmt := topS 61
theorem sc_angles : FnScope ["w", "d", "strings", "found", "k", "length", "_", "rigging"] ["w"] (defScope s_angles) := ⟨rfl, rfl, rfl, by decide +kernel, rfl, by decide +kernel, by decide +kernel⟩
noncomputable def b_angles_ : Sig → AH → Out := (dSeq (dDrop (dCall d_check_ring (dCons (dVar 0) dNil)))
    (dSeq (dSet 1 (dCall d_least_turn (dCons (dVar 0) dNil)))
    (dSeq (dSet 2 (dCall d_high_strings (dCons (dVar 0) (dCons (dVar 1) dNil))))
    (dSeq (dSet 3 (dCell (dLst dNil)))
    dNever))))
noncomputable def d_angles : List DV → AH → Res DV := dDef 8 1 false b_angles_
abbrev s_turnings : Stmt := topS 69
theorem sc_turnings : FnScope ["gaps", "r"] ["gaps"] (defScope s_turnings) := ⟨rfl, rfl, rfl, by decide +kernel, rfl, by decide +kernel, by decide +kernel⟩
noncomputable def b_turnings_ : Sig → AH → Out := dNever
noncomputable def d_turnings : List DV → AH → Res DV := dDef 2 1 false b_turnings_
abbrev s_gaps_by_length : Stmt := topS 71
theorem sc_gaps_by_length : FnScope ["w", "shape", "k", "a"] ["w"] (defScope s_gaps_by_length) := ⟨rfl, rfl, rfl, by decide +kernel, rfl, by decide +kernel, by decide +kernel⟩
noncomputable def b_gaps_by_length_ : Sig → AH → Out := dNever
noncomputable def d_gaps_by_length : List DV → AH → Res DV := dDef 4 1 false b_gaps_by_length_
abbrev s_road_name : Stmt := topS 72
theorem sc_road_name : FnScope ["w", "gaps"] ["w"] (defScope s_road_name) := ⟨rfl, rfl, rfl, by decide +kernel, rfl, by decide +kernel, by decide +kernel⟩
noncomputable def b_road_name_ : Sig → AH → Out := (dSeq (dDrop (dCall d_check_ring (dCons (dVar 0) dNil)))
    (dRet (dTup (dCons (dCall d_shape_of_ring (dCons (dVar 0) dNil)) (dCons (dApp tupleO (dCons (dVal (dLc (dSeqI (dCall d_gaps_by_length (dCons (dVar 0) dNil))) (.nm 1) dYes (dApp minO (dCons (dCall d_turnings (dCons (dVar 1) dNil)) dNil)) [1])) dNil)) dNil)))))
noncomputable def d_road_name : List DV → AH → Res DV := dDef 2 1 false b_road_name_
abbrev s_table_of : Stmt := topS 73
theorem sc_table_of : FnScope ["shape", "size", "gaps", "lengths", "rows", "at", "k", "s", "row", "j"] ["shape", "size", "gaps"] (defScope s_table_of) := ⟨rfl, rfl, rfl, by decide +kernel, rfl, by decide +kernel, by decide +kernel⟩
noncomputable def b_table_of_ : Sig → AH → Out := dNever
noncomputable def d_table_of : List DV → AH → Res DV := dDef 10 3 false b_table_of_
abbrev s_road_table : Stmt := topS 74
theorem sc_road_table : FnScope ["w"] ["w"] (defScope s_road_table) := ⟨rfl, rfl, rfl, by decide +kernel, rfl, by decide +kernel, by decide +kernel⟩
noncomputable def b_road_table_ : Sig → AH → Out := (dSeq (dDrop (dCall d_check_ring (dCons (dVar 0) dNil)))
    (dRet (dCall d_table_of (dCons (dCall d_shape_of_ring (dCons (dVar 0) dNil)) (dCons (dApp lenO (dCons (dVar 0) dNil)) (dCons (dCall d_gaps_by_length (dCons (dVar 0) dNil)) dNil))))))
noncomputable def d_road_table : List DV → AH → Res DV := dDef 1 1 false b_road_table_
abbrev s_determinant : Stmt := topS 52
theorem sc_determinant : FnScope ["rows", "left", "row", "sign", "before", "k", "at", "i", "j"] ["rows"] (defScope s_determinant) := ⟨rfl, rfl, rfl, by decide +kernel, rfl, by decide +kernel, by decide +kernel⟩
noncomputable def b_determinant_ : Sig → AH → Out := dNever
noncomputable def d_determinant : List DV → AH → Res DV := dDef 9 1 false b_determinant_
abbrev s_road_size : Stmt := topS 75
theorem sc_road_size : FnScope ["w"] ["w"] (defScope s_road_size) := ⟨rfl, rfl, rfl, by decide +kernel, rfl, by decide +kernel, by decide +kernel⟩
noncomputable def b_road_size_ : Sig → AH → Out := (dRet (dCall d_determinant (dCons (dCall d_road_table (dCons (dVar 0) dNil)) dNil)))
noncomputable def d_road_size : List DV → AH → Res DV := dDef 1 1 false b_road_size_
abbrev s_divisors : Stmt := topS 50
theorem sc_divisors : FnScope ["rows", "width"] ["rows", "width"] (defScope s_divisors) := ⟨rfl, rfl, rfl, by decide +kernel, rfl, by decide +kernel, by decide +kernel⟩
noncomputable def b_divisors_ : Sig → AH → Out := dNever
noncomputable def d_divisors : List DV → AH → Res DV := dDef 2 2 false b_divisors_
abbrev s_road_divisors : Stmt := topS 76
theorem sc_road_divisors : FnScope ["w", "rows"] ["w"] (defScope s_road_divisors) := ⟨rfl, rfl, rfl, by decide +kernel, rfl, by decide +kernel, by decide +kernel⟩
noncomputable def b_road_divisors_ : Sig → AH → Out := (dSeq (dSet 1 (dCall d_road_table (dCons (dVar 0) dNil)))
    (dRet (dCall d_divisors (dCons (dVar 1) (dCons (dApp lenO (dCons (dVar 1) dNil)) dNil)))))
noncomputable def d_road_divisors : List DV → AH → Res DV := dDef 2 1 false b_road_divisors_
abbrev s_slid : Stmt := topS 63
theorem sc_slid : FnScope ["rounds", "size", "e", "item", "shape", "found", "at", "j", "a", "p", "more", "k", "i"] ["rounds", "size", "e"] (defScope s_slid) := ⟨rfl, rfl, rfl, by decide +kernel, rfl, by decide +kernel, by decide +kernel⟩
noncomputable def b_slid_ : Sig → AH → Out := dNever
noncomputable def d_slid : List DV → AH → Res DV := dDef 13 3 false b_slid_
abbrev s_difference : Stmt := topS 77
theorem sc_difference : FnScope ["v", "w", "first", "second", "turns", "i", "ahead", "behind"] ["v", "w"] (defScope s_difference) := ⟨rfl, rfl, rfl, by decide +kernel, rfl, by decide +kernel, by decide +kernel⟩
noncomputable def b_difference_ : Sig → AH → Out := (dSeq (dDrop (dCall d_check_ring (dCons (dVar 0) dNil)))
    (dSeq (dDrop (dCall d_check_ring (dCons (dVar 1) dNil)))
    (dSeq (dIf (dOr (blOf (dBin neO (dApp lenO (dCons (dVar 0) dNil)) (dApp lenO (dCons (dVar 1) dNil)))) (blOf (dBin neO (dCall d_road_name (dCons (dVar 0) dNil)) (dCall d_road_name (dCons (dVar 1) dNil))))) (dRet (dC .non)) dPass)
    (dSeq (dAsg (.tp [(.nm 2), (.nm 3)]) (dTup (dCons (dCall d_gaps_by_length (dCons (dVar 0) dNil)) (dCons (dCall d_gaps_by_length (dCons (dVar 1) dNil)) dNil))))
    dNever))))
noncomputable def d_difference : List DV → AH → Res DV := dDef 8 2 false b_difference_
abbrev s_told_runs : Stmt := topS 23
theorem sc_told_runs : FnScope ["pairs", "most", "steps", "j", "k", "number", "found", "l", "c"] ["pairs"] (defScope s_told_runs) := ⟨rfl, rfl, rfl, by decide +kernel, rfl, by decide +kernel, by decide +kernel⟩
noncomputable def b_told_runs_ : Sig → AH → Out := dNever
noncomputable def d_told_runs : List DV → AH → Res DV := dDef 9 1 false b_told_runs_
abbrev s_joint_road : Stmt := topS 78
theorem sc_joint_road : FnScope ["v", "w", "row", "lengths", "k", "_", "i"] ["v", "w"] (defScope s_joint_road) := ⟨rfl, rfl, rfl, by decide +kernel, rfl, by decide +kernel, by decide +kernel⟩
noncomputable def b_joint_road_ : Sig → AH → Out := (dSeq (dSet 2 (dCall d_difference (dCons (dVar 0) (dCons (dVar 1) dNil))))
    (dSeq (dIf (blOf (dBin isO (dVar 2) (dC .non))) (dRet (dC .non)) dPass)
    (dSeq (dSet 3 (dVal (dLc (dSeqI (dCall d_angles (dCons (dVar 0) dNil))) (.tp [(.nm 4), (.nm 5)]) dYes (dVar 4) [4, 5])))
    (dRet (dCall d_told_runs (dCons (dApp tupleO (dCons (dVal (dLc (dRng1 (dCons (dApp lenO (dCons (dVar 2) dNil)) dNil)) (.nm 6) dYes (dTup (dCons (dBin ixO (dVar 3) (dVar 6)) (dCons (dBin ixO (dVar 2) (dVar 6)) dNil))) [6])) dNil)) dNil))))))
noncomputable def d_joint_road : List DV → AH → Res DV := dDef 7 2 false b_joint_road_
abbrev s_order_modulo : Stmt := topS 51
theorem sc_order_modulo : FnScope ["rows", "width", "h", "space", "wide", "row"] ["rows", "width", "h"] (defScope s_order_modulo) := ⟨rfl, rfl, rfl, by decide +kernel, rfl, by decide +kernel, by decide +kernel⟩
noncomputable def b_order_modulo_ : Sig → AH → Out := dNever
noncomputable def d_order_modulo : List DV → AH → Res DV := dDef 6 3 false b_order_modulo_
abbrev s_run_row : Stmt := topS 79
theorem sc_run_row : FnScope ["w", "l", "k", "_"] ["w", "l"] (defScope s_run_row) := ⟨rfl, rfl, rfl, by decide +kernel, rfl, by decide +kernel, by decide +kernel⟩
noncomputable def b_run_row_ : Sig → AH → Out := dNever
noncomputable def d_run_row : List DV → AH → Res DV := dDef 4 2 false b_run_row_
abbrev s_period : Stmt := topS 80
theorem sc_period : FnScope ["w", "l", "row"] ["w", "l"] (defScope s_period) := ⟨rfl, rfl, rfl, by decide +kernel, rfl, by decide +kernel, by decide +kernel⟩
noncomputable def b_period_ : Sig → AH → Out := (dSeq (dDrop (dCall d_check_carrier (dCons (dVar 0) (dCons (dVar 1) dNil))))
    (dSeq (dSet 2 (dCall d_run_row (dCons (dVar 0) (dCons (dVar 1) dNil))))
    (dRet (dCall d_order_modulo (dCons (dCall d_road_table (dCons (dVar 0) dNil)) (dCons (dApp lenO (dCons (dVar 2) dNil)) (dCons (dVar 2) dNil)))))))
noncomputable def d_period : List DV → AH → Res DV := dDef 3 2 false b_period_
abbrev s_solve : Stmt := topS 43
theorem sc_solve : FnScope ["rows", "width", "b", "n", "wide", "i", "left", "found", "row", "at", "c"] ["rows", "width", "b"] (defScope s_solve) := ⟨rfl, rfl, rfl, by decide +kernel, rfl, by decide +kernel, by decide +kernel⟩
noncomputable def b_solve_ : Sig → AH → Out := dNever
noncomputable def d_solve : List DV → AH → Res DV := dDef 11 3 false b_solve_
abbrev s_one_carrier : Stmt := topS 81
theorem sc_one_carrier : FnScope ["v", "w", "l", "row", "found"] ["v", "w", "l"] (defScope s_one_carrier) := ⟨rfl, rfl, rfl, by decide +kernel, rfl, by decide +kernel, by decide +kernel⟩
noncomputable def b_one_carrier_ : Sig → AH → Out := (dSeq (dDrop (dCall d_check_carrier (dCons (dVar 0) (dCons (dVar 2) dNil))))
    (dSeq (dSet 3 (dCall d_difference (dCons (dVar 0) (dCons (dVar 1) dNil))))
    (dSeq (dIf (blOf (dBin isO (dVar 3) (dC .non))) (dRet (dC .non)) dPass)
    (dSeq (dSet 4 (dCall d_solve (dCons (dBin addO (dTup (dCons (dCall d_run_row (dCons (dVar 0) (dCons (dVar 2) dNil))) dNil)) (dCall d_road_table (dCons (dVar 0) dNil))) (dCons (dApp lenO (dCons (dVar 3) dNil)) (dCons (dVar 3) dNil)))))
    (dSeq (dIf (blOf (dBin isO (dVar 4) (dC .non))) (dRet (dC .non)) dPass)
    (dRet (dBin modO (dBin ixO (dVar 4) (dC (.int 0))) (dCall d_period (dCons (dVar 0) (dCons (dVar 2) dNil))))))))))
noncomputable def d_one_carrier : List DV → AH → Res DV := dDef 5 3 false b_one_carrier_
abbrev s_ring_of : Stmt := topS 66
theorem sc_ring_of : FnScope ["rounds", "size", "strings", "k", "a", "item", "places", "x", "_", "w", "small", "l", "c", "i"] ["rounds", "size"] (defScope s_ring_of) := ⟨rfl, rfl, rfl, by decide +kernel, rfl, by decide +kernel, by decide +kernel⟩
noncomputable def b_ring_of_ : Sig → AH → Out := dNever
noncomputable def d_ring_of : List DV → AH → Res DV := dDef 14 2 false b_ring_of_
abbrev s_far_around : Stmt := topS 82
theorem sc_far_around : FnScope ["w", "l", "t", "rounds", "item", "k", "a"] ["w", "l", "t"] (defScope s_far_around) := ⟨rfl, rfl, rfl, by decide +kernel, rfl, by decide +kernel, by decide +kernel⟩
noncomputable def b_far_around_ : Sig → AH → Out := (dSeq (dDrop (dCall d_check_carrier (dCons (dVar 0) (dCons (dVar 1) dNil))))
    (dSeq (dIf (dNot (dTru (dCall d_is_integer (dCons (dVar 2) dNil)))) (dRaise "Malformed") dPass)
    (dSeq (dIf (blOf (dBin gtO (dApp absO (dCons (dVar 2) dNil)) (dC (.int 1000000000)))) dNever dPass)
    (dSeq (dSetF 3 (dLc (dSeqI (dCall d_angles (dCons (dVar 0) dNil))) (.tp [(.nm 5), (.nm 6)]) dYes (dTup (dCons (dVar 5) (dCons (dApp tupleO (dCons (dVal (dLc (dSeqI (dVar 6)) (.nm 4) dYes (dBin addO (dVar 4) (dBin mulO1 (dVar 2) (dApp minO (dCons (dVar 5) (dCons (dVar 1) dNil))))) [4])) dNil)) dNil))) [5, 6]))
    (dRet (dCall d_ring_of (dCons (dApp tupleO (dCons (dVar 3) dNil)) (dCons (dApp lenO (dCons (dVar 0) dNil)) dNil))))))))
noncomputable def d_far_around : List DV → AH → Res DV := dDef 7 3 false b_far_around_
abbrev s_law_call : Stmt := topS 90
theorem sc_law_call : FnScope ["which", "value", "w", "l"] ["which", "value", "w", "l"] (defScope s_law_call) := ⟨rfl, rfl, rfl, by decide +kernel, rfl, by decide +kernel, by decide +kernel⟩
noncomputable def b_law_call_ : Sig → AH → Out := (dSeq (dIf (blOf (dBin ltO (dVar 0) (dC (.int 7)))) (dRet (dCallV [("is_high", d_is_high), ("shape_of_ring", d_shape_of_ring), ("angles", d_angles), ("road_name", d_road_name), ("road_table", d_road_table), ("road_size", d_road_size), ("road_divisors", d_road_divisors)] (dBin ixO (dVal (dLst (dCons (dC (.glob "is_high")) (dCons (dC (.glob "shape_of_ring")) (dCons (dC (.glob "angles")) (dCons (dC (.glob "road_name")) (dCons (dC (.glob "road_table")) (dCons (dC (.glob "road_size")) (dCons (dC (.glob "road_divisors")) dNil))))))))) (dVar 0)) (dCons (dVar 1) dNil))) dPass)
    (dSeq (dIf (blOf (dBin ltO (dVar 0) (dC (.int 9)))) (dRet (dCallV [("difference", d_difference), ("joint_road", d_joint_road)] (dBin ixO (dVal (dLst (dCons (dC (.glob "difference")) (dCons (dC (.glob "joint_road")) dNil)))) (dBin subO (dVar 0) (dC (.int 7)))) (dCons (dVar 1) (dCons (dVar 2) dNil)))) dPass)
    (dSeq (dIf (blOf (dBin ltO (dVar 0) (dC (.int 11)))) (dRet (dCallV [("difference", d_difference), ("joint_road", d_joint_road)] (dBin ixO (dVal (dLst (dCons (dC (.glob "difference")) (dCons (dC (.glob "joint_road")) dNil)))) (dBin subO (dVar 0) (dC (.int 9)))) (dCons (dVar 2) (dCons (dVar 1) dNil)))) dPass)
    (dSeq (dIf (blOf (dBin eqO (dVar 0) (dC (.int 11)))) (dRet (dCall d_law_honest (dCons (dCall d_turned_ring (dCons (dVar 1) (dCons (dC (.int 1)) dNil))) dNil))) dPass)
    (dSeq (dIf (blOf (dBin ltO (dVar 0) (dC (.int 15)))) (dRet (dCallV [("carried_ring", d_carried_ring), ("carried_ring_back", d_carried_ring_back), ("period", d_period)] (dBin ixO (dVal (dLst (dCons (dC (.glob "carried_ring")) (dCons (dC (.glob "carried_ring_back")) (dCons (dC (.glob "period")) dNil))))) (dBin subO (dVar 0) (dC (.int 12)))) (dCons (dVar 1) (dCons (dVar 3) dNil)))) dPass)
    (dSeq (dIf (blOf (dBin eqO (dVar 0) (dC (.int 15)))) (dRet (dCall d_law_honest (dCons (dCall d_one_carrier (dCons (dVar 1) (dCons (dVar 2) (dCons (dVar 3) dNil)))) dNil))) dPass)
    (dSeq (dIf (blOf (dBin eqO (dVar 0) (dC (.int 16)))) (dRet (dCall d_law_honest (dCons (dCall d_one_carrier (dCons (dVar 2) (dCons (dVar 1) (dCons (dVar 3) dNil)))) dNil))) dPass)
    (dRet (dCall d_law_honest (dCons (dCall d_far_around (dCons (dVar 1) (dCons (dVar 3) (dCons (dC (.int 1)) dNil)))) dNil))))))))))
noncomputable def d_law_call : List DV → AH → Res DV := dDef 4 4 false b_law_call_
abbrev s_law_refused : Stmt := topS 91
theorem sc_law_refused : FnScope ["which", "value", "w", "l"] ["which", "value", "w", "l"] (defScope s_law_refused) := ⟨rfl, rfl, rfl, by decide +kernel, rfl, by decide +kernel, by decide +kernel⟩
noncomputable def b_law_refused_ : Sig → AH → Out := (dSeq (dTry sub_Malformed (dDrop (dCall d_law_call (dCons (dVar 0) (dCons (dVar 1) (dCons (dVar 2) (dCons (dVar 3) dNil)))))) (dRet (dC (.bl true))))
    (dRet (dC (.bl false))))
noncomputable def d_law_refused : List DV → AH → Res DV := dDef 4 4 false b_law_refused_
abbrev s_law : Stmt := topS 92
theorem sc_law : FnScope ["script", "state", "w", "value", "strange", "bad", "which", "room", "d"] ["script"] (defScope s_law) := ⟨rfl, rfl, rfl, by decide +kernel, rfl, by decide +kernel, by decide +kernel⟩
noncomputable def L0_law : Sig → AH → Out := (dIf (blOf (dBin isNotO (dCall d_is_ring (dCons (dVar 3) dNil)) (dC (.bl true)))) (dRet (dC (.bl false))) dPass)
noncomputable def L1_law : Sig → AH → Out := (dIf (blOf (dBin isNotO (dCall d_is_ring (dCons (dVar 3) dNil)) (dC (.bl false)))) (dRet (dC (.bl false))) dPass)
noncomputable def L2_law : Sig → AH → Out := (dIf (dNot (dTru (dCall d_law_refused (dCons (dVar 6) (dCons (dVar 5) (dCons (dVar 2) (dCons (dC (.int 1)) dNil))))))) (dRet (dC (.bl false))) dPass)
noncomputable def L3_law : Sig → AH → Out := (dIf (dNot (dTru (dCall d_law_refused (dCons (dVar 6) (dCons (dVar 2) (dCons (dVar 2) (dCons (dVar 7) dNil))))))) (dRet (dC (.bl false))) dPass)
noncomputable def L4_law : Sig → AH → Out := (dIf (blOf (dBin neO (dCall d_law_honest (dCons (dCall d_turned_ring (dCons (dVar 2) (dCons (dVar 8) dNil))) dNil)) (dCall d_law_turned (dCons (dVar 2) (dCons (dVar 8) dNil))))) (dRet (dC (.bl false))) dPass)
noncomputable def b_law_ : Sig → AH → Out := (dSeq (dSet 1 (dCall d_law_state (dCons (dVar 0) dNil)))
    (dSeq (dSet 2 (dCall d_law_ring (dCons (dVar 1) (dCons (dC (.int 40)) dNil))))
    (dSeq (dFor (dSeqI (dVal (dLst (dCons (dVar 2) (dCons (dTup (dCons (dC (.int 0)) dNil)) (dCons (dBin mulO1 (dTup (dCons (dC (.int 0)) dNil)) (dC (.int 40))) (dCons (dBin addO (dBin mulO1 (dTup (dCons (dC (.int 0)) dNil)) (dC (.int 21))) (dBin mulO1 (dTup (dCons (dC (.int 1)) dNil)) (dC (.int 19)))) (dCons (dTup (dCons (dC (.int 1)) (dCons (dC (.int 0)) (dCons (dC (.int 0)) dNil)))) dNil)))))))) (.nm 3) L0_law)
    (dSeq (dSet 4 (dVal (dLst (dCons (dC .non) (dCons (dC (.int 5)) (dCons (dC (.bl true)) (dCons (dC (.str "0")) (dCons (dC (.str "00")) (dCons (dTup dNil) (dCons (dVal (dLst (dCons (dC (.int 0)) dNil))) (dCons (dVal (dAppF listF (dCons (dVar 2) dNil))) (dCons (dTup (dCons (dC (.int 1)) dNil)) (dCons (dTup (dCons (dC (.int 0)) (dCons (dC (.int 1)) dNil))) (dCons (dTup (dCons (dC (.int 0)) (dCons (dC (.int 0)) (dCons (dC (.int 2)) dNil)))) (dCons (dTup (dCons (dC (.int 0)) (dCons (dC (.int 0)) (dCons (dC (.bl true)) dNil)))) (dCons (dTup (dCons (dC (.int 0)) (dCons (dC (.bl false)) (dCons (dC (.int 0)) dNil)))) dNil))))))))))))))))
    (dSeq (dSet 4 (dBin addO (dVar 4) (dVal (dLst (dCons (dTup (dCons (dC (.int 0)) (dCons (dC (.int 0)) (dCons (dC .non) dNil)))) (dCons (dTup (dCons (dC (.int 0)) (dCons (dC (.int 0)) (dCons (dC (.str "1")) dNil)))) (dCons (dTup (dCons (dTup (dCons (dC (.int 0)) dNil)) dNil)) (dCons (dTup (dCons (dC (.int 0)) (dCons (dC (.int 0)) (dCons (dUn negO (dC (.int 1))) dNil)))) (dCons (dBin mulO1 (dTup (dCons (dC (.int 0)) dNil)) (dC (.int 41))) (dCons (dBin addO (dBin mulO1 (dTup (dCons (dC (.int 0)) dNil)) (dC (.int 21))) (dBin mulO1 (dTup (dCons (dC (.int 1)) dNil)) (dC (.int 20)))) dNil))))))))))
    (dSeq (dSet 4 (dBin addO (dVar 4) (dVal (dLst (dCons (dBin mulO1 (dTup (dCons (dC (.int 0)) (dCons (dC (.int 1)) dNil))) (dC (.int 20))) (dCons (dBin addO (dVar 2) (dBin mulO1 (dTup (dCons (dC (.int 1)) dNil)) (dApp lenO (dCons (dVar 2) dNil)))) (dCons (dTup (dCons (dC (.int 0)) (dCons (dC (.int 0)) (dCons (dTup (dCons (dC (.int 0)) dNil)) dNil)))) (dCons (dC (.str "001")) dNil))))))))
    (dSeq (dFor (dSeqI (dVar 4)) (.nm 3) L1_law)
    (dSeq (dSet 5 (dBin ixO (dVar 4) (dCall d_law_take (dCons (dVar 1) (dCons (dApp lenO (dCons (dVar 4) dNil)) dNil)))))
    (dSeq (dFor (dRng1 (dCons (dC (.int 18)) dNil)) (.nm 6) L2_law)
    (dSeq (dSet 7 (dBin ixO (dVal (dLst (dCons (dC (.int 0)) (dCons (dUn negO (dC (.int 1))) (dCons (dC (.int 1001)) (dCons (dC (.bl true)) (dCons (dC .non) (dCons (dC (.str "1")) (dCons (dTup (dCons (dC (.int 1)) dNil)) (dCons (dBin powO (dC (.int 10)) (dC (.int 9))) dNil)))))))))) (dCall d_law_take (dCons (dVar 1) (dCons (dC (.int 8)) dNil)))))
    (dSeq (dFor (dRng2 (dCons (dC (.int 12)) (dCons (dC (.int 18)) dNil))) (.nm 6) L3_law)
    (dSeq (dFor (dSeqI (dVal (dLst (dCons (dBin subO (dCall d_law_take (dCons (dVar 1) (dCons (dC (.int 201)) dNil))) (dC (.int 100))) (dCons (dBin addO (dBin powO (dC (.int 10)) (dC (.int 12))) (dCall d_law_take (dCons (dVar 1) (dCons (dC (.int 100)) dNil)))) (dCons (dC (.int 0)) dNil)))))) (.nm 8) L4_law)
    (dRet (dC (.bl true)))))))))))))))
noncomputable def d_law : List DV → AH → Res DV := dDef 9 1 false b_law_
structure Txt (K : PySem.W.Frag) (mg : Str → Option Value) where
  a_is_integer : Addr
  d_is_integer : FuncData
  F_is_integer : Fun K "is_integer" "is_integer" s_is_integer a_is_integer d_is_integer
  b_is_integer : Binds K d_is_integer ["value"] []
  m_is_integer : mg "is_integer" = some (.ref a_is_integer)
  a_is_ring : Addr
  d_is_ring : FuncData
  F_is_ring : Fun K "is_ring" "is_ring" s_is_ring a_is_ring d_is_ring
  b_is_ring : Binds K d_is_ring ["value"] []
  m_is_ring : mg "is_ring" = some (.ref a_is_ring)
  a_check_ring : Addr
  d_check_ring : FuncData
  F_check_ring : Fun K "check_ring" "check_ring" s_check_ring a_check_ring d_check_ring
  b_check_ring : Binds K d_check_ring ["w"] []
  m_check_ring : mg "check_ring" = some (.ref a_check_ring)
  a_turned_ring : Addr
  d_turned_ring : FuncData
  F_turned_ring : Fun K "turned_ring" "turned_ring" s_turned_ring a_turned_ring d_turned_ring
  b_turned_ring : Binds K d_turned_ring ["w", "d"] []
  m_turned_ring : mg "turned_ring" = some (.ref a_turned_ring)
  a_law_state : Addr
  d_law_state : FuncData
  F_law_state : Fun K "_law_state" "_law_state" s_law_state a_law_state d_law_state
  b_law_state : Binds K d_law_state ["script"] []
  m_law_state : mg "_law_state" = some (.ref a_law_state)
  a_law_odd : Addr
  d_law_odd : FuncData
  F_law_odd : Fun K "_law_odd" "_law_odd" s_law_odd a_law_odd d_law_odd
  b_law_odd : Binds K d_law_odd ["value"] []
  m_law_odd : mg "_law_odd" = some (.ref a_law_odd)
  a_law_honest : Addr
  d_law_honest : FuncData
  F_law_honest : Fun K "_law_honest" "_law_honest" s_law_honest a_law_honest d_law_honest
  b_law_honest : Binds K d_law_honest ["value"] []
  m_law_honest : mg "_law_honest" = some (.ref a_law_honest)
  a_law_take : Addr
  d_law_take : FuncData
  F_law_take : Fun K "_law_take" "_law_take" s_law_take a_law_take d_law_take
  b_law_take : Binds K d_law_take ["state", "m"] []
  m_law_take : mg "_law_take" = some (.ref a_law_take)
  a_law_ring : Addr
  d_law_ring : FuncData
  F_law_ring : Fun K "_law_ring" "_law_ring" s_law_ring a_law_ring d_law_ring
  b_law_ring : Binds K d_law_ring ["state", "most"] []
  m_law_ring : mg "_law_ring" = some (.ref a_law_ring)
  a_law_turned : Addr
  d_law_turned : FuncData
  F_law_turned : Fun K "_law_turned" "_law_turned" s_law_turned a_law_turned d_law_turned
  b_law_turned : Binds K d_law_turned ["w", "d"] []
  m_law_turned : mg "_law_turned" = some (.ref a_law_turned)
  a_gone_round : Addr
  d_gone_round : FuncData
  F_gone_round : Fun K "gone_round" "gone_round" s_gone_round a_gone_round d_gone_round
  b_gone_round : Binds K d_gone_round ["w", "l", "held"] []
  m_gone_round : mg "gone_round" = some (.ref a_gone_round)
  a_is_room : Addr
  d_is_room : FuncData
  F_is_room : Fun K "is_room" "is_room" s_is_room a_is_room d_is_room
  b_is_room : Binds K d_is_room ["value"] []
  m_is_room : mg "is_room" = some (.ref a_is_room)
  a_check_carrier : Addr
  d_check_carrier : FuncData
  F_check_carrier : Fun K "check_carrier" "check_carrier" s_check_carrier a_check_carrier d_check_carrier
  b_check_carrier : Binds K d_check_carrier ["w", "l"] []
  m_check_carrier : mg "check_carrier" = some (.ref a_check_carrier)
  a_carried_ring : Addr
  d_carried_ring : FuncData
  F_carried_ring : Fun K "carried_ring" "carried_ring" s_carried_ring a_carried_ring d_carried_ring
  b_carried_ring : Binds K d_carried_ring ["w", "l"] []
  m_carried_ring : mg "carried_ring" = some (.ref a_carried_ring)
  a_carried_ring_back : Addr
  d_carried_ring_back : FuncData
  F_carried_ring_back : Fun K "carried_ring_back" "carried_ring_back" s_carried_ring_back a_carried_ring_back d_carried_ring_back
  b_carried_ring_back : Binds K d_carried_ring_back ["w", "l"] []
  m_carried_ring_back : mg "carried_ring_back" = some (.ref a_carried_ring_back)
  a_is_high : Addr
  d_is_high : FuncData
  F_is_high : Fun K "is_high" "is_high" s_is_high a_is_high d_is_high
  b_is_high : Binds K d_is_high ["w"] []
  m_is_high : mg "is_high" = some (.ref a_is_high)
  a_least_turn : Addr
  d_least_turn : FuncData
  F_least_turn : Fun K "least_turn" "least_turn" s_least_turn a_least_turn d_least_turn
  b_least_turn : Binds K d_least_turn ["w"] []
  m_least_turn : mg "least_turn" = some (.ref a_least_turn)
  a_high_strings : Addr
  d_high_strings : FuncData
  F_high_strings : Fun K "high_strings" "high_strings" s_high_strings a_high_strings d_high_strings
  b_high_strings : Binds K d_high_strings ["w", "d"] []
  m_high_strings : mg "high_strings" = some (.ref a_high_strings)
  a_shape_of_ring : Addr
  d_shape_of_ring : FuncData
  F_shape_of_ring : Fun K "shape_of_ring" "shape_of_ring" s_shape_of_ring a_shape_of_ring d_shape_of_ring
  b_shape_of_ring : Binds K d_shape_of_ring ["w"] []
  m_shape_of_ring : mg "shape_of_ring" = some (.ref a_shape_of_ring)
  a_angles : Addr
  d_angles : FuncData
  F_angles : Fun K "angles" "angles" s_angles a_angles d_angles
  b_angles : Binds K d_angles ["w"] []
  m_angles : mg "angles" = some (.ref a_angles)
  a_turnings : Addr
  d_turnings : FuncData
  F_turnings : Fun K "turnings" "turnings" s_turnings a_turnings d_turnings
  b_turnings : Binds K d_turnings ["gaps"] []
  m_turnings : mg "turnings" = some (.ref a_turnings)
  a_gaps_by_length : Addr
  d_gaps_by_length : FuncData
  F_gaps_by_length : Fun K "gaps_by_length" "gaps_by_length" s_gaps_by_length a_gaps_by_length d_gaps_by_length
  b_gaps_by_length : Binds K d_gaps_by_length ["w"] []
  m_gaps_by_length : mg "gaps_by_length" = some (.ref a_gaps_by_length)
  a_road_name : Addr
  d_road_name : FuncData
  F_road_name : Fun K "road_name" "road_name" s_road_name a_road_name d_road_name
  b_road_name : Binds K d_road_name ["w"] []
  m_road_name : mg "road_name" = some (.ref a_road_name)
  a_table_of : Addr
  d_table_of : FuncData
  F_table_of : Fun K "table_of" "table_of" s_table_of a_table_of d_table_of
  b_table_of : Binds K d_table_of ["shape", "size", "gaps"] []
  m_table_of : mg "table_of" = some (.ref a_table_of)
  a_road_table : Addr
  d_road_table : FuncData
  F_road_table : Fun K "road_table" "road_table" s_road_table a_road_table d_road_table
  b_road_table : Binds K d_road_table ["w"] []
  m_road_table : mg "road_table" = some (.ref a_road_table)
  a_determinant : Addr
  d_determinant : FuncData
  F_determinant : Fun K "determinant" "determinant" s_determinant a_determinant d_determinant
  b_determinant : Binds K d_determinant ["rows"] []
  m_determinant : mg "determinant" = some (.ref a_determinant)
  a_road_size : Addr
  d_road_size : FuncData
  F_road_size : Fun K "road_size" "road_size" s_road_size a_road_size d_road_size
  b_road_size : Binds K d_road_size ["w"] []
  m_road_size : mg "road_size" = some (.ref a_road_size)
  a_divisors : Addr
  d_divisors : FuncData
  F_divisors : Fun K "divisors" "divisors" s_divisors a_divisors d_divisors
  b_divisors : Binds K d_divisors ["rows", "width"] []
  m_divisors : mg "divisors" = some (.ref a_divisors)
  a_road_divisors : Addr
  d_road_divisors : FuncData
  F_road_divisors : Fun K "road_divisors" "road_divisors" s_road_divisors a_road_divisors d_road_divisors
  b_road_divisors : Binds K d_road_divisors ["w"] []
  m_road_divisors : mg "road_divisors" = some (.ref a_road_divisors)
  a_slid : Addr
  d_slid : FuncData
  F_slid : Fun K "slid" "slid" s_slid a_slid d_slid
  b_slid : Binds K d_slid ["rounds", "size", "e"] []
  m_slid : mg "slid" = some (.ref a_slid)
  a_difference : Addr
  d_difference : FuncData
  F_difference : Fun K "difference" "difference" s_difference a_difference d_difference
  b_difference : Binds K d_difference ["v", "w"] []
  m_difference : mg "difference" = some (.ref a_difference)
  a_told_runs : Addr
  d_told_runs : FuncData
  F_told_runs : Fun K "told_runs" "told_runs" s_told_runs a_told_runs d_told_runs
  b_told_runs : Binds K d_told_runs ["pairs"] []
  m_told_runs : mg "told_runs" = some (.ref a_told_runs)
  a_joint_road : Addr
  d_joint_road : FuncData
  F_joint_road : Fun K "joint_road" "joint_road" s_joint_road a_joint_road d_joint_road
  b_joint_road : Binds K d_joint_road ["v", "w"] []
  m_joint_road : mg "joint_road" = some (.ref a_joint_road)
  a_order_modulo : Addr
  d_order_modulo : FuncData
  F_order_modulo : Fun K "order_modulo" "order_modulo" s_order_modulo a_order_modulo d_order_modulo
  b_order_modulo : Binds K d_order_modulo ["rows", "width", "h"] []
  m_order_modulo : mg "order_modulo" = some (.ref a_order_modulo)
  a_run_row : Addr
  d_run_row : FuncData
  F_run_row : Fun K "run_row" "run_row" s_run_row a_run_row d_run_row
  b_run_row : Binds K d_run_row ["w", "l"] []
  m_run_row : mg "run_row" = some (.ref a_run_row)
  a_period : Addr
  d_period : FuncData
  F_period : Fun K "period" "period" s_period a_period d_period
  b_period : Binds K d_period ["w", "l"] []
  m_period : mg "period" = some (.ref a_period)
  a_solve : Addr
  d_solve : FuncData
  F_solve : Fun K "solve" "solve" s_solve a_solve d_solve
  b_solve : Binds K d_solve ["rows", "width", "b"] []
  m_solve : mg "solve" = some (.ref a_solve)
  a_one_carrier : Addr
  d_one_carrier : FuncData
  F_one_carrier : Fun K "one_carrier" "one_carrier" s_one_carrier a_one_carrier d_one_carrier
  b_one_carrier : Binds K d_one_carrier ["v", "w", "l"] []
  m_one_carrier : mg "one_carrier" = some (.ref a_one_carrier)
  a_ring_of : Addr
  d_ring_of : FuncData
  F_ring_of : Fun K "ring_of" "ring_of" s_ring_of a_ring_of d_ring_of
  b_ring_of : Binds K d_ring_of ["rounds", "size"] []
  m_ring_of : mg "ring_of" = some (.ref a_ring_of)
  a_far_around : Addr
  d_far_around : FuncData
  F_far_around : Fun K "far_around" "far_around" s_far_around a_far_around d_far_around
  b_far_around : Binds K d_far_around ["w", "l", "t"] []
  m_far_around : mg "far_around" = some (.ref a_far_around)
  a_law_call : Addr
  d_law_call : FuncData
  F_law_call : Fun K "_law_call" "_law_call" s_law_call a_law_call d_law_call
  b_law_call : Binds K d_law_call ["which", "value", "w", "l"] []
  m_law_call : mg "_law_call" = some (.ref a_law_call)
  a_law_refused : Addr
  d_law_refused : FuncData
  F_law_refused : Fun K "_law_refused" "_law_refused" s_law_refused a_law_refused d_law_refused
  b_law_refused : Binds K d_law_refused ["which", "value", "w", "l"] []
  m_law_refused : mg "_law_refused" = some (.ref a_law_refused)
  a_law : Addr
  d_law : FuncData
  F_law : Fun K "law" "law" s_law a_law d_law
  b_law : Binds K d_law ["script"] []
  m_law : mg "law" = some (.ref a_law)
  z_abs : mg "abs" = none
  z_all : mg "all" = none
  z_bool : mg "bool" = none
  z_int : mg "int" = none
  z_isinstance : mg "isinstance" = none
  z_len : mg "len" = none
  z_list : mg "list" = none
  z_min : mg "min" = none
  z_range : mg "range" = none
  z_sum : mg "sum" = none
  z_tuple : mg "tuple" = none
  t_MOST_CARRIER : Tok
  c_MOST_CARRIER : mg "MOST_CARRIER" = some (.int 1000 t_MOST_CARRIER)
  t_MOST_LENGTH : Tok
  c_MOST_LENGTH : mg "MOST_LENGTH" = some (.int 40 t_MOST_LENGTH)
  t_MOST_RUNS : Tok
  c_MOST_RUNS : mg "MOST_RUNS" = some (.int 1000000000 t_MOST_RUNS)
  a_Malformed : Addr
  m_Malformed : mg "Malformed" = some (.ref a_Malformed)
  x_Malformed : PySem.W.excIn K a_Malformed [.type "ValueError", .type "Exception", .type "BaseException", .type "object"] "ValueError.__new__" = true
  k_Malformed : PySem.W.keepIn K (.ref a_Malformed) = true
  xb_Malformed : PySem.W.subIn K (.ref a_Malformed) (.type "BaseException") = some true
  xt_Malformed : PySem.W.typeIn K (.ref a_Malformed) = some (.type "type")
  sub_Malformed : ∀ (n : Str) (b : Bool) (cls : Value), sub_Malformed n = some b → mg n = some cls → PySem.W.exmOne K cls (.ref a_Malformed) = some b
theorem ok_is_integer {P : Program} {w : World} {K : PySem.W.Frag} {mg : Str → Option Value} {base : Heap} (T : Txt K mg) : FnOk P w K mg base (L2.CX P w) 1 T.a_is_integer T.d_is_integer ["value"] (spD ⟨K, mg⟩ d_is_integer) :=
  def_ok (k := 0) T.F_is_integer sc_is_integer rfl rfl fun cdv A outer s H E hr g =>
    (dss_one (ds_ret (de_and (de_isi (by decide +kernel) (by rfl) T.z_isinstance (by rfl) T.z_int b_int (de_var 0)) (de_one (de_not (de_isi (by decide +kernel) (by rfl) T.z_isinstance (by rfl) T.z_bool b_bool (de_var 0)))))))
theorem ok_is_ring {P : Program} {w : World} {K : PySem.W.Frag} {mg : Str → Option Value} {base : Heap} (T : Txt K mg) : FnOk P w K mg base (L2.CX P w) 2 T.a_is_ring T.d_is_ring ["value"] (spD ⟨K, mg⟩ d_is_ring) :=
  def_ok (k := 1) T.F_is_ring sc_is_ring rfl rfl fun cdv A outer s H E hr g =>
    (dss_cons (ds_if (dt_w (dw_or (dt_not (dt_tru (de_isi (by decide +kernel) (by rfl) T.z_isinstance (by rfl) T.z_tuple b_tuple (de_var 0)))) (dw_or (dt_cmp ow_lt (de_callB ow_len (by rfl) T.z_len b_len (da_cons (de_var 0) da_nil)) de_int (nomark _)) (dw_or1 (dt_cmp ow_gt (de_callB ow_len (by rfl) T.z_len b_len (da_cons (de_var 0) da_nil)) (de_gint (by rfl) T.c_MOST_LENGTH) (nomark _)))))) (dss_one (ds_ret de_bl)) dss_nil)
    (dss_cons (ds_if (dt_not (dt_tru (de_callB (ow_all rfl) (by rfl) T.z_all b_all (da_cons (de_val (fe_lc g sc_is_ring.nd (di_seq (de_var 0)) (blkOk_by (own := [("item", 1)]) (by kernel_rfl)) (fun _ _ _ _ _ => (dg_nm sc_is_ring.nd rfl (by first | exact Or.inl rfl | exact Or.inr rfl))) (fun _ _ _ _ _ => dts_nil) (fun _ _ _ _ _ => (de_and (de_call (Gd.blk g _ _ _ _ _) ((ok_is_integer T).mono (by decide)) hr (by rfl) T.m_is_integer T.F_is_integer.kp T.b_is_integer (da_cons (de_var 1) da_nil)) (de_one (de_chain ow_le ow_le de_int (de_var 1) de_int)))) (by decide))) da_nil)))) (dss_one (ds_ret de_bl)) dss_nil)
    (dss_one (ds_ret (de_cmp ow_lt (de_bin ow_mul1 de_int (de_callB (ow_sum rfl) (by rfl) T.z_sum b_sum (da_cons (de_var 0) da_nil))) (de_callB ow_len (by rfl) T.z_len b_len (da_cons (de_var 0) da_nil)) (nomark _))))))
theorem ok_check_ring {P : Program} {w : World} {K : PySem.W.Frag} {mg : Str → Option Value} {base : Heap} (T : Txt K mg) : FnOk P w K mg base (L2.CX P w) 3 T.a_check_ring T.d_check_ring ["w"] (spD ⟨K, mg⟩ d_check_ring) :=
  def_ok (k := 2) T.F_check_ring sc_check_ring rfl rfl fun cdv A outer s H E hr g =>
    (dss_one (ds_if (dt_not (dt_tru (de_call g ((ok_is_ring T).mono (by decide)) hr (by rfl) T.m_is_ring T.F_is_ring.kp T.b_is_ring (da_cons (de_var 0) da_nil)))) (dss_one (ds_raise g (pmk_own PySem.F.excBase_ValueError T.x_Malformed T.m_Malformed T.k_Malformed (raises_own T.xb_Malformed T.xt_Malformed) rfl) T.m_Malformed)) dss_nil))
theorem ok_turned_ring {P : Program} {w : World} {K : PySem.W.Frag} {mg : Str → Option Value} {base : Heap} (T : Txt K mg) : FnOk P w K mg base (L2.CX P w) 4 T.a_turned_ring T.d_turned_ring ["w", "d"] (spD ⟨K, mg⟩ d_turned_ring) :=
  def_ok (k := 3) T.F_turned_ring sc_turned_ring rfl rfl fun cdv A outer s H E hr g =>
    (dss_cons (ds_expr (de_call g ((ok_check_ring T).mono (by decide)) hr (by rfl) T.m_check_ring T.F_check_ring.kp T.b_check_ring (da_cons (de_var 0) da_nil)))
    (dss_cons (ds_set (i := 2) sc_turned_ring.nd rfl (by first | exact Or.inl rfl | exact Or.inr rfl) (de_bin ow_mod (de_var 1) (de_callB ow_len (by rfl) T.z_len b_len (da_cons (de_var 0) da_nil))))
    (dss_one (ds_ret (de_bin ow_add (de_sl (de_var 0) (dp_some (de_var 2)) dp_none) (de_sl (de_var 0) dp_none (dp_some (de_var 2))))))))
theorem ok_law_state {P : Program} {w : World} {K : PySem.W.Frag} {mg : Str → Option Value} {base : Heap} (T : Txt K mg) : FnOk P w K mg base (L2.CX P w) 1 T.a_law_state T.d_law_state ["script"] (spD ⟨K, mg⟩ d_law_state) :=
  def_ok (k := 0) T.F_law_state sc_law_state rfl rfl fun cdv A outer s H E hr g =>
    (dss_cons (ds_set (i := 1) sc_law_state.nd rfl (by first | exact Or.inl rfl | exact Or.inr rfl) de_int)
    (dss_cons (ds_set (i := 2) sc_law_state.nd rfl (by first | exact Or.inl rfl | exact Or.inr rfl) de_int)
    (dss_cons (ds_for g (di_seq (de_sl (de_var 0) dp_none (dp_some de_int))) (dg_nm sc_law_state.nd rfl (by first | exact Or.inl rfl | exact Or.inr rfl)) (dss_cons (ds_set (i := 1) sc_law_state.nd rfl (by first | exact Or.inl rfl | exact Or.inr rfl) (de_bin ow_add (de_bin ow_mul1 (de_var 1) de_int) (de_callB ow_abs (by rfl) T.z_abs b_abs (da_cons (de_var 3) da_nil))))
    (dss_one (ds_set (i := 2) sc_law_state.nd rfl (by first | exact Or.inl rfl | exact Or.inr rfl) (de_bin ow_mod (de_callTy ow_int (by rfl) T.z_int b_int (da_cons (de_bin ow_add (de_bin ow_mul1 (de_var 2) de_int) (de_var 3)) da_nil)) de_int)))))
    (dss_one (ds_ret (de_cell (fe_lst (da_cons (de_var 1) (da_cons (de_var 2) da_nil)))))))))
theorem ok_law_odd {P : Program} {w : World} {K : PySem.W.Frag} {mg : Str → Option Value} {base : Heap} (T : Txt K mg) : ∀ n : Nat, FnOk P w K mg base (L2.CX P w) (n + 1) T.a_law_odd T.d_law_odd ["value"] (spD ⟨K, mg⟩ (d_law_odd n))
  | 0 => fn_bad
  | n + 1 => by
    have ih : FnOk P w K mg base (L2.CX P w) (n + 1) T.a_law_odd T.d_law_odd ["value"] (spD ⟨K, mg⟩ (d_law_odd n)) := ok_law_odd T n
    exact def_ok (k := n + 1) T.F_law_odd sc_law_odd rfl rfl fun cdv A outer s H E hr g =>
      (dss_cons (ds_if (dt_cmp (ow_eq hr.units) (de_var 0) de_str (nomark _)) (dss_one (ds_ret de_bl)) dss_nil)
    (dss_one (ds_ret (de_and (de_isi2 (by decide +kernel) (by decide +kernel) (by rfl) T.z_isinstance (by rfl) T.z_tuple b_tuple (by rfl) T.z_list b_list (de_var 0)) (de_one (de_cmp ow_gt (de_callB ow_len (by rfl) T.z_len b_len (da_cons (de_val (fe_lc g sc_law_odd.nd (di_seq (de_var 0)) (blkOk_by (own := [("item", 1)]) (by kernel_rfl)) (fun _ _ _ _ _ => (dg_nm sc_law_odd.nd rfl (by first | exact Or.inl rfl | exact Or.inr rfl))) (fun _ _ _ _ _ => (dts_one (dt_tru (de_call (Gd.blk g _ _ _ _ _) (ih.mono (by omega)) hr (by rfl) T.m_law_odd T.F_law_odd.kp T.b_law_odd (da_cons (de_var 1) da_nil))))) (fun _ _ _ _ _ => (de_var 1)) (by decide))) da_nil)) de_int (nomark _)))))))
theorem ok_law_honest {P : Program} {w : World} {K : PySem.W.Frag} {mg : Str → Option Value} {base : Heap} (T : Txt K mg) : FnOk P w K mg base (L2.CX P w) 10 T.a_law_honest T.d_law_honest ["value"] (spD ⟨K, mg⟩ d_law_honest) :=
  def_ok (k := 9) T.F_law_honest sc_law_honest rfl rfl fun cdv A outer s H E hr g =>
    (dss_one (ds_ret (de_ite (dt_tru (de_call g ((ok_law_odd T 8).mono (by decide)) hr (by rfl) T.m_law_odd T.F_law_odd.kp T.b_law_odd (da_cons (de_var 0) da_nil))) de_str (de_var 0))))
theorem ok_law_take {P : Program} {w : World} {K : PySem.W.Frag} {mg : Str → Option Value} {base : Heap} (T : Txt K mg) : FnOk P w K mg base (L2.CX P w) 1 T.a_law_take T.d_law_take ["state", "m"] (spD ⟨K, mg⟩ d_law_take) :=
  def_ok (k := 0) T.F_law_take sc_law_take rfl rfl fun cdv A outer s H E hr g =>
    (dss_cons (ds_if (dt_cmp ow_gt (de_ix (de_var 0) de_int (fun _ _ => rfl)) de_int (nomark _)) (dss_cons (ds_set (i := 2) sc_law_take.nd rfl (by first | exact Or.inl rfl | exact Or.inr rfl) (de_bin ow_mod (de_callTy ow_int (by rfl) T.z_int b_int (da_cons (de_ix (de_var 0) de_int (fun _ _ => rfl)) da_nil)) (de_var 1)))
    (dss_cons (ds_sub (de_bin ow_div (de_ix (de_var 0) de_int (fun _ _ => rfl)) (de_var 1)) (de_var 0) de_int)
    (dss_one (ds_ret (de_var 2))))) dss_nil)
    (dss_cons (ds_sub (de_bin ow_mod (de_callTy ow_int (by rfl) T.z_int b_int (da_cons (de_bin ow_add (de_bin ow_mul1 (de_ix (de_var 0) de_int (fun _ _ => rfl)) de_int) de_int) da_nil)) de_int) (de_var 0) de_int)
    (dss_one (ds_ret (de_bin ow_mod (de_callTy ow_int (by rfl) T.z_int b_int (da_cons (de_bin ow_div (de_ix (de_var 0) de_int (fun _ _ => rfl)) de_int) da_nil)) (de_var 1))))))
theorem ok_law_ring {P : Program} {w : World} {K : PySem.W.Frag} {mg : Str → Option Value} {base : Heap} (T : Txt K mg) : FnOk P w K mg base (L2.CX P w) 2 T.a_law_ring T.d_law_ring ["state", "most"] (spD ⟨K, mg⟩ d_law_ring) :=
  def_ok (k := 1) T.F_law_ring sc_law_ring rfl rfl fun cdv A outer s H E hr g =>
    (dss_cons (ds_set (i := 2) sc_law_ring.nd rfl (by first | exact Or.inl rfl | exact Or.inr rfl) (de_bin ow_add de_int (de_call g ((ok_law_take T).mono (by decide)) hr (by rfl) T.m_law_take T.F_law_take.kp T.b_law_take (da_cons (de_var 0) (da_cons (de_var 1) da_nil)))))
    (dss_cons (ds_set (i := 3) sc_law_ring.nd rfl (by first | exact Or.inl rfl | exact Or.inr rfl) (de_cell (fe_lc g sc_law_ring.nd (di_rng1 (by rfl) T.z_range (da_cons (de_var 2) da_nil)) (blkOk_by (own := [("k", 4)]) (by kernel_rfl)) (fun _ _ _ _ _ => (dg_nm sc_law_ring.nd rfl (by first | exact Or.inl rfl | exact Or.inr rfl))) (fun _ _ _ _ _ => dts_nil) (fun _ _ _ _ _ => de_int) (by decide))))
    (dss_cons (ds_set (i := 5) sc_law_ring.nd rfl (by first | exact Or.inl rfl | exact Or.inr rfl) (de_un ow_neg de_int))
    (dss_cons (ds_for g (di_rng1 (by rfl) T.z_range (da_cons (de_call g ((ok_law_take T).mono (by decide)) hr (by rfl) T.m_law_take T.F_law_take.kp T.b_law_take (da_cons (de_var 0) (da_cons (de_bin ow_div (de_callTy ow_int (by rfl) T.z_int b_int (da_cons (de_bin ow_add (de_var 2) de_int) da_nil)) de_int) da_nil))) da_nil)) (dg_nm sc_law_ring.nd rfl (by first | exact Or.inl rfl | exact Or.inr rfl)) (dss_cons (ds_setLcV (i := 7) g sc_law_ring.nd rfl rfl (sw_true rfl rfl rfl (by decide +kernel)) (di_rng1 (by rfl) T.z_range (da_cons (de_var 2) da_nil)) (blkOk_by (own := [("k", 4)]) (by kernel_rfl)) (fun _ _ _ _ _ => (dg_nm sc_law_ring.nd rfl (by first | exact Or.inl rfl | exact Or.inr rfl))) (fun _ _ _ _ _ => (dts_one (dt_cmp (ow_eq hr.units) (de_ix (de_var 3) (de_var 4) (fun _ _ => rfl)) de_int (nomark _)))) (fun _ _ _ _ _ => (de_var 4)) (by decide))
    (dss_cons (ds_set (i := 8) sc_law_ring.nd rfl (by first | exact Or.inl rfl | exact Or.inr rfl) (de_ix (de_var 7) (de_call g ((ok_law_take T).mono (by decide)) hr (by rfl) T.m_law_take T.F_law_take.kp T.b_law_take (da_cons (de_var 0) (da_cons (de_callB ow_len (by rfl) T.z_len b_len (da_cons (de_var 7) da_nil)) da_nil))) (fun _ _ => rfl)))
    (dss_cons (ds_setLcV (i := 9) g sc_law_ring.nd rfl rfl (sw_true rfl rfl rfl (by decide +kernel)) (di_rng1 (by rfl) T.z_range (da_cons (de_var 2) da_nil)) (blkOk_by (own := [("k", 4)]) (by kernel_rfl)) (fun _ _ _ _ _ => (dg_nm sc_law_ring.nd rfl (by first | exact Or.inl rfl | exact Or.inr rfl))) (fun _ _ _ _ _ => (dts_one (dt_cmp (ow_eq hr.units) (de_ix (de_var 3) (de_bin ow_mod (de_callTy ow_int (by rfl) T.z_int b_int (da_cons (de_bin ow_add (de_bin ow_add (de_var 5) de_int) (de_var 4)) da_nil)) (de_var 2)) (fun _ _ => rfl)) de_int (nomark _)))) (fun _ _ _ _ _ => (de_bin ow_mod (de_callTy ow_int (by rfl) T.z_int b_int (da_cons (de_bin ow_add (de_bin ow_add (de_var 5) de_int) (de_var 4)) da_nil)) (de_var 2))) (by decide))
    (dss_cons (ds_if (dt_w (dw_and (dt_cmp ow_ge (de_var 5) de_int (nomark _)) (dw_and1 (dt_cmp ow_lt (de_call g ((ok_law_take T).mono (by decide)) hr (by rfl) T.m_law_take T.F_law_take.kp T.b_law_take (da_cons (de_var 0) (da_cons de_int da_nil))) de_int (nomark _))))) (dss_one (ds_set (i := 8) sc_law_ring.nd rfl (by first | exact Or.inl rfl | exact Or.inr rfl) (de_ix (de_var 9) de_int (fun _ _ => rfl)))) dss_nil)
    (dss_cons (ds_sub de_int (de_var 3) (de_var 8))
    (dss_one (ds_set (i := 5) sc_law_ring.nd rfl (by first | exact Or.inl rfl | exact Or.inr rfl) (de_var 8)))))))))
    (dss_one (ds_ret (de_callTy ow_tuple (by rfl) T.z_tuple b_tuple (da_cons (de_var 3) da_nil))))))))
theorem ok_law_turned {P : Program} {w : World} {K : PySem.W.Frag} {mg : Str → Option Value} {base : Heap} (T : Txt K mg) : FnOk P w K mg base (L2.CX P w) 1 T.a_law_turned T.d_law_turned ["w", "d"] (spD ⟨K, mg⟩ d_law_turned) :=
  def_ok (k := 0) T.F_law_turned sc_law_turned rfl rfl fun cdv A outer s H E hr g =>
    (dss_one (ds_ret (de_callTy ow_tuple (by rfl) T.z_tuple b_tuple (da_cons (de_val (fe_lc g sc_law_turned.nd (di_rng1 (by rfl) T.z_range (da_cons (de_callB ow_len (by rfl) T.z_len b_len (da_cons (de_var 0) da_nil)) da_nil)) (blkOk_by (own := [("x", 2)]) (by kernel_rfl)) (fun _ _ _ _ _ => (dg_nm sc_law_turned.nd rfl (by first | exact Or.inl rfl | exact Or.inr rfl))) (fun _ _ _ _ _ => dts_nil) (fun _ _ _ _ _ => (de_ix (de_var 0) (de_bin ow_mod (de_callTy ow_int (by rfl) T.z_int b_int (da_cons (de_bin ow_add (de_var 2) (de_var 1)) da_nil)) (de_callB ow_len (by rfl) T.z_len b_len (da_cons (de_var 0) da_nil))) (fun _ _ => rfl))) (by decide))) da_nil))))
theorem ok_gone_round {P : Program} {w : World} {K : PySem.W.Frag} {mg : Str → Option Value} {base : Heap} (T : Txt K mg) : FnOk P w K mg base (L2.CX P w) 1 T.a_gone_round T.d_gone_round ["w", "l", "held"] (spD ⟨K, mg⟩ d_gone_round) :=
  def_ok (k := 0) T.F_gone_round sc_gone_round rfl rfl fun cdv A outer s H E hr g =>
    (dss_cons (ds_set (i := 3) sc_gone_round.nd rfl (by first | exact Or.inl rfl | exact Or.inr rfl) (de_cell (fe_lst da_nil)))
    (dss_cons (ds_for g (di_seq (de_var 0)) (dg_nm sc_gone_round.nd rfl (by first | exact Or.inl rfl | exact Or.inr rfl)) (dss_one (ds_if (dt_w (dw_and (dt_cmp (ow_eq hr.units) (de_var 4) de_int (nomark _)) (dw_and1 (dt_cmp ow_lt (de_var 2) (de_var 1) (nomark _))))) (dss_cons (ds_expr (de_meth PySem.F.slot_list_append PySem.F.type_list_append ow_append (de_var 3) (da_cons de_int da_nil)))
    (dss_one (ds_set (i := 2) sc_gone_round.nd rfl (by first | exact Or.inl rfl | exact Or.inr rfl) (de_bin ow_add (de_var 2) de_int)))) (dss_one (ds_if (dt_w (dw_and (dt_cmp (ow_eq hr.units) (de_var 4) de_int (nomark _)) (dw_and1 (dt_cmp ow_gt (de_var 2) de_int (nomark _))))) (dss_cons (ds_expr (de_meth PySem.F.slot_list_append PySem.F.type_list_append ow_append (de_var 3) (da_cons de_int da_nil)))
    (dss_one (ds_set (i := 2) sc_gone_round.nd rfl (by first | exact Or.inl rfl | exact Or.inr rfl) (de_bin ow_sub (de_var 2) de_int)))) (dss_one (ds_expr (de_meth PySem.F.slot_list_append PySem.F.type_list_append ow_append (de_var 3) (da_cons (de_var 4) da_nil)))))))))
    (dss_one (ds_ret (de_tup (da_cons (de_callTy ow_tuple (by rfl) T.z_tuple b_tuple (da_cons (de_var 3) da_nil)) (da_cons (de_var 2) da_nil)))))))
theorem ok_is_room {P : Program} {w : World} {K : PySem.W.Frag} {mg : Str → Option Value} {base : Heap} (T : Txt K mg) : FnOk P w K mg base (L2.CX P w) 2 T.a_is_room T.d_is_room ["value"] (spD ⟨K, mg⟩ d_is_room) :=
  def_ok (k := 1) T.F_is_room sc_is_room rfl rfl fun cdv A outer s H E hr g =>
    (dss_one (ds_ret (de_and (de_call g ((ok_is_integer T).mono (by decide)) hr (by rfl) T.m_is_integer T.F_is_integer.kp T.b_is_integer (da_cons (de_var 0) da_nil)) (de_one (de_chain ow_le ow_le de_int (de_var 0) (de_gint (by rfl) T.c_MOST_CARRIER))))))
theorem ok_check_carrier {P : Program} {w : World} {K : PySem.W.Frag} {mg : Str → Option Value} {base : Heap} (T : Txt K mg) : FnOk P w K mg base (L2.CX P w) 4 T.a_check_carrier T.d_check_carrier ["w", "l"] (spD ⟨K, mg⟩ d_check_carrier) :=
  def_ok (k := 3) T.F_check_carrier sc_check_carrier rfl rfl fun cdv A outer s H E hr g =>
    (dss_cons (ds_expr (de_call g ((ok_check_ring T).mono (by decide)) hr (by rfl) T.m_check_ring T.F_check_ring.kp T.b_check_ring (da_cons (de_var 0) da_nil)))
    (dss_one (ds_if (dt_not (dt_tru (de_call g ((ok_is_room T).mono (by decide)) hr (by rfl) T.m_is_room T.F_is_room.kp T.b_is_room (da_cons (de_var 1) da_nil)))) (dss_one (ds_raise g (pmk_own PySem.F.excBase_ValueError T.x_Malformed T.m_Malformed T.k_Malformed (raises_own T.xb_Malformed T.xt_Malformed) rfl) T.m_Malformed)) dss_nil)))
theorem ok_carried_ring {P : Program} {w : World} {K : PySem.W.Frag} {mg : Str → Option Value} {base : Heap} (T : Txt K mg) : FnOk P w K mg base (L2.CX P w) 5 T.a_carried_ring T.d_carried_ring ["w", "l"] (spD ⟨K, mg⟩ d_carried_ring) :=
  def_ok (k := 4) T.F_carried_ring sc_carried_ring rfl rfl fun cdv A outer s H E hr g =>
    (dss_cons (ds_expr (de_call g ((ok_check_carrier T).mono (by decide)) hr (by rfl) T.m_check_carrier T.F_check_carrier.kp T.b_check_carrier (da_cons (de_var 0) (da_cons (de_var 1) da_nil))))
    (dss_one (ds_ret (de_ix (de_call g ((ok_gone_round T).mono (by decide)) hr (by rfl) T.m_gone_round T.F_gone_round.kp T.b_gone_round (da_cons (de_var 0) (da_cons (de_var 1) (da_cons (de_ix (de_call g ((ok_gone_round T).mono (by decide)) hr (by rfl) T.m_gone_round T.F_gone_round.kp T.b_gone_round (da_cons (de_var 0) (da_cons (de_var 1) (da_cons de_int da_nil)))) de_int (fun _ _ => rfl)) da_nil)))) de_int (fun _ _ => rfl)))))
theorem ok_carried_ring_back {P : Program} {w : World} {K : PySem.W.Frag} {mg : Str → Option Value} {base : Heap} (T : Txt K mg) : FnOk P w K mg base (L2.CX P w) 6 T.a_carried_ring_back T.d_carried_ring_back ["w", "l"] (spD ⟨K, mg⟩ d_carried_ring_back) :=
  def_ok (k := 5) T.F_carried_ring_back sc_carried_ring_back rfl rfl fun cdv A outer s H E hr g =>
    (dss_cons (ds_expr (de_call g ((ok_check_carrier T).mono (by decide)) hr (by rfl) T.m_check_carrier T.F_check_carrier.kp T.b_check_carrier (da_cons (de_var 0) (da_cons (de_var 1) da_nil))))
    (dss_one (ds_ret (de_rev (de_call g ((ok_carried_ring T).mono (by decide)) hr (by rfl) T.m_carried_ring T.F_carried_ring.kp T.b_carried_ring (da_cons (de_rev (de_var 0)) (da_cons (de_var 1) da_nil)))))))
theorem ok_is_high {P : Program} {w : World} {K : PySem.W.Frag} {mg : Str → Option Value} {base : Heap} (T : Txt K mg) : FnOk P w K mg base (L2.CX P w) 4 T.a_is_high T.d_is_high ["w"] (spD ⟨K, mg⟩ d_is_high) :=
  def_ok (k := 3) T.F_is_high sc_is_high rfl rfl fun cdv A outer s H E hr g =>
    (dss_cons (ds_expr (de_call g ((ok_check_ring T).mono (by decide)) hr (by rfl) T.m_check_ring T.F_check_ring.kp T.b_check_ring (da_cons (de_var 0) da_nil)))
    (dss_cons (ds_set (i := 1) sc_is_high.nd rfl (by first | exact Or.inl rfl | exact Or.inr rfl) de_int)
    (dss_cons (ds_for g (di_seq (de_var 0)) (dg_nm sc_is_high.nd rfl (by first | exact Or.inl rfl | exact Or.inr rfl)) (dss_cons (ds_set (i := 1) sc_is_high.nd rfl (by first | exact Or.inl rfl | exact Or.inr rfl) (de_bin ow_sub (de_bin ow_add (de_var 1) de_int) (de_bin ow_mul1 de_int (de_var 2))))
    (dss_one (ds_if (dt_cmp ow_lt (de_var 1) de_int (nomark _)) (dss_one (ds_ret de_bl)) dss_nil))))
    (dss_one (ds_ret de_bl)))))
theorem ok_least_turn {P : Program} {w : World} {K : PySem.W.Frag} {mg : Str → Option Value} {base : Heap} (T : Txt K mg) : FnOk P w K mg base (L2.CX P w) 1 T.a_least_turn T.d_least_turn ["w"] (spD ⟨K, mg⟩ d_least_turn) :=
  def_ok (k := 0) T.F_least_turn sc_least_turn rfl rfl fun cdv A outer s H E hr g =>
    dss_never
theorem ok_high_strings {P : Program} {w : World} {K : PySem.W.Frag} {mg : Str → Option Value} {base : Heap} (T : Txt K mg) : FnOk P w K mg base (L2.CX P w) 1 T.a_high_strings T.d_high_strings ["w", "d"] (spD ⟨K, mg⟩ d_high_strings) :=
  def_ok (k := 0) T.F_high_strings sc_high_strings rfl rfl fun cdv A outer s H E hr g =>
    dss_never
theorem ok_shape_of_ring {P : Program} {w : World} {K : PySem.W.Frag} {mg : Str → Option Value} {base : Heap} (T : Txt K mg) : FnOk P w K mg base (L2.CX P w) 4 T.a_shape_of_ring T.d_shape_of_ring ["w"] (spD ⟨K, mg⟩ d_shape_of_ring) :=
  def_ok (k := 3) T.F_shape_of_ring sc_shape_of_ring rfl rfl fun cdv A outer s H E hr g =>
    (dss_cons (ds_expr (de_call g ((ok_check_ring T).mono (by decide)) hr (by rfl) T.m_check_ring T.F_check_ring.kp T.b_check_ring (da_cons (de_var 0) da_nil)))
    (dss_one (ds_ret (de_callTy ow_tuple (by rfl) T.z_tuple b_tuple (da_cons (de_rev (de_val (fe_lc g sc_shape_of_ring.nd (di_seq (de_call g ((ok_high_strings T).mono (by decide)) hr (by rfl) T.m_high_strings T.F_high_strings.kp T.b_high_strings (da_cons (de_var 0) (da_cons (de_call g ((ok_least_turn T).mono (by decide)) hr (by rfl) T.m_least_turn T.F_least_turn.kp T.b_least_turn (da_cons (de_var 0) da_nil)) da_nil)))) (blkOk_by (own := [("length", 1), ("_", 2)]) (by kernel_rfl)) (fun _ _ _ _ _ => (dg_tp rfl (dgs_cons (dg_nm sc_shape_of_ring.nd rfl (by first | exact Or.inl rfl | exact Or.inr rfl)) (dgs_cons (dg_nm sc_shape_of_ring.nd rfl (by first | exact Or.inl rfl | exact Or.inr rfl)) dgs_nil)))) (fun _ _ _ _ _ => dts_nil) (fun _ _ _ _ _ => (de_var 1)) (by decide)))) da_nil)))))
theorem ok_angles {P : Program} {w : World} {K : PySem.W.Frag} {mg : Str → Option Value} {base : Heap} (T : Txt K mg) : FnOk P w K mg base (L2.CX P w) 4 T.a_angles T.d_angles ["w"] (spD ⟨K, mg⟩ d_angles) :=
  def_ok (k := 3) T.F_angles sc_angles rfl rfl fun cdv A outer s H E hr g =>
    (dss_cons (ds_expr (de_call g ((ok_check_ring T).mono (by decide)) hr (by rfl) T.m_check_ring T.F_check_ring.kp T.b_check_ring (da_cons (de_var 0) da_nil)))
    (dss_cons (ds_set (i := 1) sc_angles.nd rfl (by first | exact Or.inl rfl | exact Or.inr rfl) (de_call g ((ok_least_turn T).mono (by decide)) hr (by rfl) T.m_least_turn T.F_least_turn.kp T.b_least_turn (da_cons (de_var 0) da_nil)))
    (dss_cons (ds_set (i := 2) sc_angles.nd rfl (by first | exact Or.inl rfl | exact Or.inr rfl) (de_call g ((ok_high_strings T).mono (by decide)) hr (by rfl) T.m_high_strings T.F_high_strings.kp T.b_high_strings (da_cons (de_var 0) (da_cons (de_var 1) da_nil))))
    (dss_cons (ds_set (i := 3) sc_angles.nd rfl (by first | exact Or.inl rfl | exact Or.inr rfl) (de_cell (fe_lst da_nil)))
    dss_never))))
theorem ok_turnings {P : Program} {w : World} {K : PySem.W.Frag} {mg : Str → Option Value} {base : Heap} (T : Txt K mg) : FnOk P w K mg base (L2.CX P w) 1 T.a_turnings T.d_turnings ["gaps"] (spD ⟨K, mg⟩ d_turnings) :=
  def_ok (k := 0) T.F_turnings sc_turnings rfl rfl fun cdv A outer s H E hr g =>
    dss_never
theorem ok_gaps_by_length {P : Program} {w : World} {K : PySem.W.Frag} {mg : Str → Option Value} {base : Heap} (T : Txt K mg) : FnOk P w K mg base (L2.CX P w) 1 T.a_gaps_by_length T.d_gaps_by_length ["w"] (spD ⟨K, mg⟩ d_gaps_by_length) :=
  def_ok (k := 0) T.F_gaps_by_length sc_gaps_by_length rfl rfl fun cdv A outer s H E hr g =>
    dss_never
theorem ok_road_name {P : Program} {w : World} {K : PySem.W.Frag} {mg : Str → Option Value} {base : Heap} (T : Txt K mg) : FnOk P w K mg base (L2.CX P w) 5 T.a_road_name T.d_road_name ["w"] (spD ⟨K, mg⟩ d_road_name) :=
  def_ok (k := 4) T.F_road_name sc_road_name rfl rfl fun cdv A outer s H E hr g =>
    (dss_cons (ds_expr (de_call g ((ok_check_ring T).mono (by decide)) hr (by rfl) T.m_check_ring T.F_check_ring.kp T.b_check_ring (da_cons (de_var 0) da_nil)))
    (dss_one (ds_ret (de_tup (da_cons (de_call g ((ok_shape_of_ring T).mono (by decide)) hr (by rfl) T.m_shape_of_ring T.F_shape_of_ring.kp T.b_shape_of_ring (da_cons (de_var 0) da_nil)) (da_cons (de_callTy ow_tuple (by rfl) T.z_tuple b_tuple (da_cons (de_val (fe_lc g sc_road_name.nd (di_seq (de_call g ((ok_gaps_by_length T).mono (by decide)) hr (by rfl) T.m_gaps_by_length T.F_gaps_by_length.kp T.b_gaps_by_length (da_cons (de_var 0) da_nil))) (blkOk_by (own := [("gaps", 1)]) (by kernel_rfl)) (fun _ _ _ _ _ => (dg_nm sc_road_name.nd rfl (by first | exact Or.inl rfl | exact Or.inr rfl))) (fun _ _ _ _ _ => dts_nil) (fun _ _ _ _ _ => (de_callB (ow_min rfl) (by rfl) T.z_min b_min (da_cons (de_call (Gd.blk g _ _ _ _ _) ((ok_turnings T).mono (by decide)) hr (by rfl) T.m_turnings T.F_turnings.kp T.b_turnings (da_cons (de_var 1) da_nil)) da_nil))) (by decide))) da_nil)) da_nil))))))
theorem ok_table_of {P : Program} {w : World} {K : PySem.W.Frag} {mg : Str → Option Value} {base : Heap} (T : Txt K mg) : FnOk P w K mg base (L2.CX P w) 1 T.a_table_of T.d_table_of ["shape", "size", "gaps"] (spD ⟨K, mg⟩ d_table_of) :=
  def_ok (k := 0) T.F_table_of sc_table_of rfl rfl fun cdv A outer s H E hr g =>
    dss_never
theorem ok_road_table {P : Program} {w : World} {K : PySem.W.Frag} {mg : Str → Option Value} {base : Heap} (T : Txt K mg) : FnOk P w K mg base (L2.CX P w) 5 T.a_road_table T.d_road_table ["w"] (spD ⟨K, mg⟩ d_road_table) :=
  def_ok (k := 4) T.F_road_table sc_road_table rfl rfl fun cdv A outer s H E hr g =>
    (dss_cons (ds_expr (de_call g ((ok_check_ring T).mono (by decide)) hr (by rfl) T.m_check_ring T.F_check_ring.kp T.b_check_ring (da_cons (de_var 0) da_nil)))
    (dss_one (ds_ret (de_call g ((ok_table_of T).mono (by decide)) hr (by rfl) T.m_table_of T.F_table_of.kp T.b_table_of (da_cons (de_call g ((ok_shape_of_ring T).mono (by decide)) hr (by rfl) T.m_shape_of_ring T.F_shape_of_ring.kp T.b_shape_of_ring (da_cons (de_var 0) da_nil)) (da_cons (de_callB ow_len (by rfl) T.z_len b_len (da_cons (de_var 0) da_nil)) (da_cons (de_call g ((ok_gaps_by_length T).mono (by decide)) hr (by rfl) T.m_gaps_by_length T.F_gaps_by_length.kp T.b_gaps_by_length (da_cons (de_var 0) da_nil)) da_nil)))))))
theorem ok_determinant {P : Program} {w : World} {K : PySem.W.Frag} {mg : Str → Option Value} {base : Heap} (T : Txt K mg) : FnOk P w K mg base (L2.CX P w) 1 T.a_determinant T.d_determinant ["rows"] (spD ⟨K, mg⟩ d_determinant) :=
  def_ok (k := 0) T.F_determinant sc_determinant rfl rfl fun cdv A outer s H E hr g =>
    dss_never
theorem ok_road_size {P : Program} {w : World} {K : PySem.W.Frag} {mg : Str → Option Value} {base : Heap} (T : Txt K mg) : FnOk P w K mg base (L2.CX P w) 6 T.a_road_size T.d_road_size ["w"] (spD ⟨K, mg⟩ d_road_size) :=
  def_ok (k := 5) T.F_road_size sc_road_size rfl rfl fun cdv A outer s H E hr g =>
    (dss_one (ds_ret (de_call g ((ok_determinant T).mono (by decide)) hr (by rfl) T.m_determinant T.F_determinant.kp T.b_determinant (da_cons (de_call g ((ok_road_table T).mono (by decide)) hr (by rfl) T.m_road_table T.F_road_table.kp T.b_road_table (da_cons (de_var 0) da_nil)) da_nil))))
theorem ok_divisors {P : Program} {w : World} {K : PySem.W.Frag} {mg : Str → Option Value} {base : Heap} (T : Txt K mg) : FnOk P w K mg base (L2.CX P w) 1 T.a_divisors T.d_divisors ["rows", "width"] (spD ⟨K, mg⟩ d_divisors) :=
  def_ok (k := 0) T.F_divisors sc_divisors rfl rfl fun cdv A outer s H E hr g =>
    dss_never
theorem ok_road_divisors {P : Program} {w : World} {K : PySem.W.Frag} {mg : Str → Option Value} {base : Heap} (T : Txt K mg) : FnOk P w K mg base (L2.CX P w) 6 T.a_road_divisors T.d_road_divisors ["w"] (spD ⟨K, mg⟩ d_road_divisors) :=
  def_ok (k := 5) T.F_road_divisors sc_road_divisors rfl rfl fun cdv A outer s H E hr g =>
    (dss_cons (ds_set (i := 1) sc_road_divisors.nd rfl (by first | exact Or.inl rfl | exact Or.inr rfl) (de_call g ((ok_road_table T).mono (by decide)) hr (by rfl) T.m_road_table T.F_road_table.kp T.b_road_table (da_cons (de_var 0) da_nil)))
    (dss_one (ds_ret (de_call g ((ok_divisors T).mono (by decide)) hr (by rfl) T.m_divisors T.F_divisors.kp T.b_divisors (da_cons (de_var 1) (da_cons (de_callB ow_len (by rfl) T.z_len b_len (da_cons (de_var 1) da_nil)) da_nil))))))
theorem ok_slid {P : Program} {w : World} {K : PySem.W.Frag} {mg : Str → Option Value} {base : Heap} (T : Txt K mg) : FnOk P w K mg base (L2.CX P w) 1 T.a_slid T.d_slid ["rounds", "size", "e"] (spD ⟨K, mg⟩ d_slid) :=
  def_ok (k := 0) T.F_slid sc_slid rfl rfl fun cdv A outer s H E hr g =>
    dss_never
theorem ok_difference {P : Program} {w : World} {K : PySem.W.Frag} {mg : Str → Option Value} {base : Heap} (T : Txt K mg) : FnOk P w K mg base (L2.CX P w) 6 T.a_difference T.d_difference ["v", "w"] (spD ⟨K, mg⟩ d_difference) :=
  def_ok (k := 5) T.F_difference sc_difference rfl rfl fun cdv A outer s H E hr g =>
    (dss_cons (ds_expr (de_call g ((ok_check_ring T).mono (by decide)) hr (by rfl) T.m_check_ring T.F_check_ring.kp T.b_check_ring (da_cons (de_var 0) da_nil)))
    (dss_cons (ds_expr (de_call g ((ok_check_ring T).mono (by decide)) hr (by rfl) T.m_check_ring T.F_check_ring.kp T.b_check_ring (da_cons (de_var 1) da_nil)))
    (dss_cons (ds_if (dt_w (dw_or (dt_cmp (ow_ne hr.units) (de_callB ow_len (by rfl) T.z_len b_len (da_cons (de_var 0) da_nil)) (de_callB ow_len (by rfl) T.z_len b_len (da_cons (de_var 1) da_nil)) (nomark _)) (dw_or1 (dt_cmp (ow_ne hr.units) (de_call g ((ok_road_name T).mono (by decide)) hr (by rfl) T.m_road_name T.F_road_name.kp T.b_road_name (da_cons (de_var 0) da_nil)) (de_call g ((ok_road_name T).mono (by decide)) hr (by rfl) T.m_road_name T.F_road_name.kp T.b_road_name (da_cons (de_var 1) da_nil)) (nomark _))))) (dss_one (ds_ret de_non)) dss_nil)
    (dss_cons (ds_asg (de_tup (da_cons (de_call g ((ok_gaps_by_length T).mono (by decide)) hr (by rfl) T.m_gaps_by_length T.F_gaps_by_length.kp T.b_gaps_by_length (da_cons (de_var 0) da_nil)) (da_cons (de_call g ((ok_gaps_by_length T).mono (by decide)) hr (by rfl) T.m_gaps_by_length T.F_gaps_by_length.kp T.b_gaps_by_length (da_cons (de_var 1) da_nil)) da_nil))) (dg_tp rfl (dgs_cons (dg_nm sc_difference.nd rfl (by first | exact Or.inl rfl | exact Or.inr rfl)) (dgs_cons (dg_nm sc_difference.nd rfl (by first | exact Or.inl rfl | exact Or.inr rfl)) dgs_nil))))
    dss_never))))
theorem ok_told_runs {P : Program} {w : World} {K : PySem.W.Frag} {mg : Str → Option Value} {base : Heap} (T : Txt K mg) : FnOk P w K mg base (L2.CX P w) 1 T.a_told_runs T.d_told_runs ["pairs"] (spD ⟨K, mg⟩ d_told_runs) :=
  def_ok (k := 0) T.F_told_runs sc_told_runs rfl rfl fun cdv A outer s H E hr g =>
    dss_never
theorem ok_joint_road {P : Program} {w : World} {K : PySem.W.Frag} {mg : Str → Option Value} {base : Heap} (T : Txt K mg) : FnOk P w K mg base (L2.CX P w) 7 T.a_joint_road T.d_joint_road ["v", "w"] (spD ⟨K, mg⟩ d_joint_road) :=
  def_ok (k := 6) T.F_joint_road sc_joint_road rfl rfl fun cdv A outer s H E hr g =>
    (dss_cons (ds_set (i := 2) sc_joint_road.nd rfl (by first | exact Or.inl rfl | exact Or.inr rfl) (de_call g ((ok_difference T).mono (by decide)) hr (by rfl) T.m_difference T.F_difference.kp T.b_difference (da_cons (de_var 0) (da_cons (de_var 1) da_nil))))
    (dss_cons (ds_if (dt_cmp ow_is (de_var 2) de_non (nomark _)) (dss_one (ds_ret de_non)) dss_nil)
    (dss_cons (ds_set (i := 3) sc_joint_road.nd rfl (by first | exact Or.inl rfl | exact Or.inr rfl) (de_val (fe_lc g sc_joint_road.nd (di_seq (de_call g ((ok_angles T).mono (by decide)) hr (by rfl) T.m_angles T.F_angles.kp T.b_angles (da_cons (de_var 0) da_nil))) (blkOk_by (own := [("k", 4), ("_", 5)]) (by kernel_rfl)) (fun _ _ _ _ _ => (dg_tp rfl (dgs_cons (dg_nm sc_joint_road.nd rfl (by first | exact Or.inl rfl | exact Or.inr rfl)) (dgs_cons (dg_nm sc_joint_road.nd rfl (by first | exact Or.inl rfl | exact Or.inr rfl)) dgs_nil)))) (fun _ _ _ _ _ => dts_nil) (fun _ _ _ _ _ => (de_var 4)) (by decide))))
    (dss_one (ds_ret (de_call g ((ok_told_runs T).mono (by decide)) hr (by rfl) T.m_told_runs T.F_told_runs.kp T.b_told_runs (da_cons (de_callTy ow_tuple (by rfl) T.z_tuple b_tuple (da_cons (de_val (fe_lc g sc_joint_road.nd (di_rng1 (by rfl) T.z_range (da_cons (de_callB ow_len (by rfl) T.z_len b_len (da_cons (de_var 2) da_nil)) da_nil)) (blkOk_by (own := [("i", 6)]) (by kernel_rfl)) (fun _ _ _ _ _ => (dg_nm sc_joint_road.nd rfl (by first | exact Or.inl rfl | exact Or.inr rfl))) (fun _ _ _ _ _ => dts_nil) (fun _ _ _ _ _ => (de_tup (da_cons (de_ix (de_var 3) (de_var 6) (fun _ _ => rfl)) (da_cons (de_ix (de_var 2) (de_var 6) (fun _ _ => rfl)) da_nil)))) (by decide))) da_nil)) da_nil)))))))
theorem ok_order_modulo {P : Program} {w : World} {K : PySem.W.Frag} {mg : Str → Option Value} {base : Heap} (T : Txt K mg) : FnOk P w K mg base (L2.CX P w) 1 T.a_order_modulo T.d_order_modulo ["rows", "width", "h"] (spD ⟨K, mg⟩ d_order_modulo) :=
  def_ok (k := 0) T.F_order_modulo sc_order_modulo rfl rfl fun cdv A outer s H E hr g =>
    dss_never
theorem ok_run_row {P : Program} {w : World} {K : PySem.W.Frag} {mg : Str → Option Value} {base : Heap} (T : Txt K mg) : FnOk P w K mg base (L2.CX P w) 1 T.a_run_row T.d_run_row ["w", "l"] (spD ⟨K, mg⟩ d_run_row) :=
  def_ok (k := 0) T.F_run_row sc_run_row rfl rfl fun cdv A outer s H E hr g =>
    dss_never
theorem ok_period {P : Program} {w : World} {K : PySem.W.Frag} {mg : Str → Option Value} {base : Heap} (T : Txt K mg) : FnOk P w K mg base (L2.CX P w) 6 T.a_period T.d_period ["w", "l"] (spD ⟨K, mg⟩ d_period) :=
  def_ok (k := 5) T.F_period sc_period rfl rfl fun cdv A outer s H E hr g =>
    (dss_cons (ds_expr (de_call g ((ok_check_carrier T).mono (by decide)) hr (by rfl) T.m_check_carrier T.F_check_carrier.kp T.b_check_carrier (da_cons (de_var 0) (da_cons (de_var 1) da_nil))))
    (dss_cons (ds_set (i := 2) sc_period.nd rfl (by first | exact Or.inl rfl | exact Or.inr rfl) (de_call g ((ok_run_row T).mono (by decide)) hr (by rfl) T.m_run_row T.F_run_row.kp T.b_run_row (da_cons (de_var 0) (da_cons (de_var 1) da_nil))))
    (dss_one (ds_ret (de_call g ((ok_order_modulo T).mono (by decide)) hr (by rfl) T.m_order_modulo T.F_order_modulo.kp T.b_order_modulo (da_cons (de_call g ((ok_road_table T).mono (by decide)) hr (by rfl) T.m_road_table T.F_road_table.kp T.b_road_table (da_cons (de_var 0) da_nil)) (da_cons (de_callB ow_len (by rfl) T.z_len b_len (da_cons (de_var 2) da_nil)) (da_cons (de_var 2) da_nil))))))))
theorem ok_solve {P : Program} {w : World} {K : PySem.W.Frag} {mg : Str → Option Value} {base : Heap} (T : Txt K mg) : FnOk P w K mg base (L2.CX P w) 1 T.a_solve T.d_solve ["rows", "width", "b"] (spD ⟨K, mg⟩ d_solve) :=
  def_ok (k := 0) T.F_solve sc_solve rfl rfl fun cdv A outer s H E hr g =>
    dss_never
theorem ok_one_carrier {P : Program} {w : World} {K : PySem.W.Frag} {mg : Str → Option Value} {base : Heap} (T : Txt K mg) : FnOk P w K mg base (L2.CX P w) 7 T.a_one_carrier T.d_one_carrier ["v", "w", "l"] (spD ⟨K, mg⟩ d_one_carrier) :=
  def_ok (k := 6) T.F_one_carrier sc_one_carrier rfl rfl fun cdv A outer s H E hr g =>
    (dss_cons (ds_expr (de_call g ((ok_check_carrier T).mono (by decide)) hr (by rfl) T.m_check_carrier T.F_check_carrier.kp T.b_check_carrier (da_cons (de_var 0) (da_cons (de_var 2) da_nil))))
    (dss_cons (ds_set (i := 3) sc_one_carrier.nd rfl (by first | exact Or.inl rfl | exact Or.inr rfl) (de_call g ((ok_difference T).mono (by decide)) hr (by rfl) T.m_difference T.F_difference.kp T.b_difference (da_cons (de_var 0) (da_cons (de_var 1) da_nil))))
    (dss_cons (ds_if (dt_cmp ow_is (de_var 3) de_non (nomark _)) (dss_one (ds_ret de_non)) dss_nil)
    (dss_cons (ds_set (i := 4) sc_one_carrier.nd rfl (by first | exact Or.inl rfl | exact Or.inr rfl) (de_call g ((ok_solve T).mono (by decide)) hr (by rfl) T.m_solve T.F_solve.kp T.b_solve (da_cons (de_bin ow_add (de_tup (da_cons (de_call g ((ok_run_row T).mono (by decide)) hr (by rfl) T.m_run_row T.F_run_row.kp T.b_run_row (da_cons (de_var 0) (da_cons (de_var 2) da_nil))) da_nil)) (de_call g ((ok_road_table T).mono (by decide)) hr (by rfl) T.m_road_table T.F_road_table.kp T.b_road_table (da_cons (de_var 0) da_nil))) (da_cons (de_callB ow_len (by rfl) T.z_len b_len (da_cons (de_var 3) da_nil)) (da_cons (de_var 3) da_nil)))))
    (dss_cons (ds_if (dt_cmp ow_is (de_var 4) de_non (nomark _)) (dss_one (ds_ret de_non)) dss_nil)
    (dss_one (ds_ret (de_bin ow_mod (de_ix (de_var 4) de_int (fun _ _ => rfl)) (de_call g ((ok_period T).mono (by decide)) hr (by rfl) T.m_period T.F_period.kp T.b_period (da_cons (de_var 0) (da_cons (de_var 2) da_nil)))))))))))
theorem ok_ring_of {P : Program} {w : World} {K : PySem.W.Frag} {mg : Str → Option Value} {base : Heap} (T : Txt K mg) : FnOk P w K mg base (L2.CX P w) 1 T.a_ring_of T.d_ring_of ["rounds", "size"] (spD ⟨K, mg⟩ d_ring_of) :=
  def_ok (k := 0) T.F_ring_of sc_ring_of rfl rfl fun cdv A outer s H E hr g =>
    dss_never
theorem ok_far_around {P : Program} {w : World} {K : PySem.W.Frag} {mg : Str → Option Value} {base : Heap} (T : Txt K mg) : FnOk P w K mg base (L2.CX P w) 5 T.a_far_around T.d_far_around ["w", "l", "t"] (spD ⟨K, mg⟩ d_far_around) :=
  def_ok (k := 4) T.F_far_around sc_far_around rfl rfl fun cdv A outer s H E hr g =>
    (dss_cons (ds_expr (de_call g ((ok_check_carrier T).mono (by decide)) hr (by rfl) T.m_check_carrier T.F_check_carrier.kp T.b_check_carrier (da_cons (de_var 0) (da_cons (de_var 1) da_nil))))
    (dss_cons (ds_if (dt_not (dt_tru (de_call g ((ok_is_integer T).mono (by decide)) hr (by rfl) T.m_is_integer T.F_is_integer.kp T.b_is_integer (da_cons (de_var 2) da_nil)))) (dss_one (ds_raise g (pmk_own PySem.F.excBase_ValueError T.x_Malformed T.m_Malformed T.k_Malformed (raises_own T.xb_Malformed T.xt_Malformed) rfl) T.m_Malformed)) dss_nil)
    (dss_cons (ds_if (dt_cmp ow_gt (de_callB ow_abs (by rfl) T.z_abs b_abs (da_cons (de_var 2) da_nil)) (de_gint (by rfl) T.c_MOST_RUNS) (nomark _)) (dss_one ds_never) dss_nil)
    (dss_cons (ds_setLcV (i := 3) g sc_far_around.nd rfl rfl (sw_true rfl rfl rfl (by decide +kernel)) (di_seq (de_call g ((ok_angles T).mono (by decide)) hr (by rfl) T.m_angles T.F_angles.kp T.b_angles (da_cons (de_var 0) da_nil))) (blkOk_by (own := [("k", 5), ("a", 6)]) (by kernel_rfl)) (fun _ _ _ _ _ => (dg_tp rfl (dgs_cons (dg_nm sc_far_around.nd rfl (by first | exact Or.inl rfl | exact Or.inr rfl)) (dgs_cons (dg_nm sc_far_around.nd rfl (by first | exact Or.inl rfl | exact Or.inr rfl)) dgs_nil)))) (fun _ _ _ _ _ => dts_nil) (fun _ _ _ _ _ => (de_tup (da_cons (de_var 5) (da_cons (de_callTy ow_tuple (by rfl) T.z_tuple b_tuple (da_cons (de_val (fe_lc (Gd.blk g _ _ _ _ _) sc_far_around.nd (di_seq (de_var 6)) (blkOk_by (own := [("item", 4)]) (by kernel_rfl)) (fun _ _ _ _ _ => (dg_nm sc_far_around.nd rfl (by first | exact Or.inl rfl | exact Or.inr rfl))) (fun _ _ _ _ _ => dts_nil) (fun _ _ _ _ _ => (de_bin ow_add (de_var 4) (de_bin ow_mul1 (de_var 2) (de_callB (ow_min rfl) (by rfl) T.z_min b_min (da_cons (de_var 5) (da_cons (de_var 1) da_nil)))))) (by decide))) da_nil)) da_nil)))) (by decide))
    (dss_one (ds_ret (de_call g ((ok_ring_of T).mono (by decide)) hr (by rfl) T.m_ring_of T.F_ring_of.kp T.b_ring_of (da_cons (de_callTy ow_tuple (by rfl) T.z_tuple b_tuple (da_cons (de_var 3) da_nil)) (da_cons (de_callB ow_len (by rfl) T.z_len b_len (da_cons (de_var 0) da_nil)) da_nil)))))))))
theorem ok_law_call {P : Program} {w : World} {K : PySem.W.Frag} {mg : Str → Option Value} {base : Heap} (T : Txt K mg) : FnOk P w K mg base (L2.CX P w) 11 T.a_law_call T.d_law_call ["which", "value", "w", "l"] (spD ⟨K, mg⟩ d_law_call) :=
  def_ok (k := 10) T.F_law_call sc_law_call rfl rfl fun cdv A outer s H E hr g =>
    (dss_cons (ds_if (dt_cmp ow_lt (de_var 0) de_int (nomark _)) (dss_one (ds_ret (de_callV g (.cons ((ok_is_high T).mono (by decide)) hr T.m_is_high T.F_is_high.kp T.b_is_high (.cons ((ok_shape_of_ring T).mono (by decide)) hr T.m_shape_of_ring T.F_shape_of_ring.kp T.b_shape_of_ring (.cons ((ok_angles T).mono (by decide)) hr T.m_angles T.F_angles.kp T.b_angles (.cons ((ok_road_name T).mono (by decide)) hr T.m_road_name T.F_road_name.kp T.b_road_name (.cons ((ok_road_table T).mono (by decide)) hr T.m_road_table T.F_road_table.kp T.b_road_table (.cons ((ok_road_size T).mono (by decide)) hr T.m_road_size T.F_road_size.kp T.b_road_size (.cons ((ok_road_divisors T).mono (by decide)) hr T.m_road_divisors T.F_road_divisors.kp T.b_road_divisors .nil))))))) (de_ix (de_val (fe_lst (da_cons (de_glob (by rfl) T.m_is_high) (da_cons (de_glob (by rfl) T.m_shape_of_ring) (da_cons (de_glob (by rfl) T.m_angles) (da_cons (de_glob (by rfl) T.m_road_name) (da_cons (de_glob (by rfl) T.m_road_table) (da_cons (de_glob (by rfl) T.m_road_size) (da_cons (de_glob (by rfl) T.m_road_divisors) da_nil))))))))) (de_var 0) (fun _ _ => rfl)) (da_cons (de_var 1) da_nil)))) dss_nil)
    (dss_cons (ds_if (dt_cmp ow_lt (de_var 0) de_int (nomark _)) (dss_one (ds_ret (de_callV g (.cons ((ok_difference T).mono (by decide)) hr T.m_difference T.F_difference.kp T.b_difference (.cons ((ok_joint_road T).mono (by decide)) hr T.m_joint_road T.F_joint_road.kp T.b_joint_road .nil)) (de_ix (de_val (fe_lst (da_cons (de_glob (by rfl) T.m_difference) (da_cons (de_glob (by rfl) T.m_joint_road) da_nil)))) (de_bin ow_sub (de_var 0) de_int) (fun _ _ => rfl)) (da_cons (de_var 1) (da_cons (de_var 2) da_nil))))) dss_nil)
    (dss_cons (ds_if (dt_cmp ow_lt (de_var 0) de_int (nomark _)) (dss_one (ds_ret (de_callV g (.cons ((ok_difference T).mono (by decide)) hr T.m_difference T.F_difference.kp T.b_difference (.cons ((ok_joint_road T).mono (by decide)) hr T.m_joint_road T.F_joint_road.kp T.b_joint_road .nil)) (de_ix (de_val (fe_lst (da_cons (de_glob (by rfl) T.m_difference) (da_cons (de_glob (by rfl) T.m_joint_road) da_nil)))) (de_bin ow_sub (de_var 0) de_int) (fun _ _ => rfl)) (da_cons (de_var 2) (da_cons (de_var 1) da_nil))))) dss_nil)
    (dss_cons (ds_if (dt_cmp (ow_eq hr.units) (de_var 0) de_int (nomark _)) (dss_one (ds_ret (de_call g ((ok_law_honest T).mono (by decide)) hr (by rfl) T.m_law_honest T.F_law_honest.kp T.b_law_honest (da_cons (de_call g ((ok_turned_ring T).mono (by decide)) hr (by rfl) T.m_turned_ring T.F_turned_ring.kp T.b_turned_ring (da_cons (de_var 1) (da_cons de_int da_nil))) da_nil)))) dss_nil)
    (dss_cons (ds_if (dt_cmp ow_lt (de_var 0) de_int (nomark _)) (dss_one (ds_ret (de_callV g (.cons ((ok_carried_ring T).mono (by decide)) hr T.m_carried_ring T.F_carried_ring.kp T.b_carried_ring (.cons ((ok_carried_ring_back T).mono (by decide)) hr T.m_carried_ring_back T.F_carried_ring_back.kp T.b_carried_ring_back (.cons ((ok_period T).mono (by decide)) hr T.m_period T.F_period.kp T.b_period .nil))) (de_ix (de_val (fe_lst (da_cons (de_glob (by rfl) T.m_carried_ring) (da_cons (de_glob (by rfl) T.m_carried_ring_back) (da_cons (de_glob (by rfl) T.m_period) da_nil))))) (de_bin ow_sub (de_var 0) de_int) (fun _ _ => rfl)) (da_cons (de_var 1) (da_cons (de_var 3) da_nil))))) dss_nil)
    (dss_cons (ds_if (dt_cmp (ow_eq hr.units) (de_var 0) de_int (nomark _)) (dss_one (ds_ret (de_call g ((ok_law_honest T).mono (by decide)) hr (by rfl) T.m_law_honest T.F_law_honest.kp T.b_law_honest (da_cons (de_call g ((ok_one_carrier T).mono (by decide)) hr (by rfl) T.m_one_carrier T.F_one_carrier.kp T.b_one_carrier (da_cons (de_var 1) (da_cons (de_var 2) (da_cons (de_var 3) da_nil)))) da_nil)))) dss_nil)
    (dss_cons (ds_if (dt_cmp (ow_eq hr.units) (de_var 0) de_int (nomark _)) (dss_one (ds_ret (de_call g ((ok_law_honest T).mono (by decide)) hr (by rfl) T.m_law_honest T.F_law_honest.kp T.b_law_honest (da_cons (de_call g ((ok_one_carrier T).mono (by decide)) hr (by rfl) T.m_one_carrier T.F_one_carrier.kp T.b_one_carrier (da_cons (de_var 2) (da_cons (de_var 1) (da_cons (de_var 3) da_nil)))) da_nil)))) dss_nil)
    (dss_one (ds_ret (de_call g ((ok_law_honest T).mono (by decide)) hr (by rfl) T.m_law_honest T.F_law_honest.kp T.b_law_honest (da_cons (de_call g ((ok_far_around T).mono (by decide)) hr (by rfl) T.m_far_around T.F_far_around.kp T.b_far_around (da_cons (de_var 1) (da_cons (de_var 3) (da_cons de_int da_nil)))) da_nil)))))))))))
theorem ok_law_refused {P : Program} {w : World} {K : PySem.W.Frag} {mg : Str → Option Value} {base : Heap} (T : Txt K mg) : FnOk P w K mg base (L2.CX P w) 12 T.a_law_refused T.d_law_refused ["which", "value", "w", "l"] (spD ⟨K, mg⟩ d_law_refused) :=
  def_ok (k := 11) T.F_law_refused sc_law_refused rfl rfl fun cdv A outer s H E hr g =>
    (dss_cons (ds_try g rfl rfl ⟨rfl, by decide, .inl T.m_Malformed⟩ T.sub_Malformed (fun W pn xe g => (dss_one (ds_expr (de_call g ((ok_law_call T).mono (by decide)) hr (by rfl) T.m_law_call T.F_law_call.kp T.b_law_call (da_cons (de_var 0) (da_cons (de_var 1) (da_cons (de_var 2) (da_cons (de_var 3) da_nil)))))))) (fun a pn => (dss_one (ds_ret de_bl))))
    (dss_one (ds_ret de_bl)))
theorem ok_law {P : Program} {w : World} {K : PySem.W.Frag} {mg : Str → Option Value} {base : Heap} (T : Txt K mg) : FnOk P w K mg base (L2.CX P w) 13 T.a_law T.d_law ["script"] (spD ⟨K, mg⟩ d_law) :=
  def_ok (k := 12) T.F_law sc_law rfl rfl fun cdv A outer s H E hr g =>
    (dss_cons (ds_set (i := 1) sc_law.nd rfl (by first | exact Or.inl rfl | exact Or.inr rfl) (de_call g ((ok_law_state T).mono (by decide)) hr (by rfl) T.m_law_state T.F_law_state.kp T.b_law_state (da_cons (de_var 0) da_nil)))
    (dss_cons (ds_set (i := 2) sc_law.nd rfl (by first | exact Or.inl rfl | exact Or.inr rfl) (de_call g ((ok_law_ring T).mono (by decide)) hr (by rfl) T.m_law_ring T.F_law_ring.kp T.b_law_ring (da_cons (de_var 1) (da_cons de_int da_nil))))
    (dss_cons (ds_for g (di_seq (de_val (fe_lst (da_cons (de_var 2) (da_cons (de_tup (da_cons de_int da_nil)) (da_cons (de_bin ow_mul1 (de_tup (da_cons de_int da_nil)) de_int) (da_cons (de_bin ow_add (de_bin ow_mul1 (de_tup (da_cons de_int da_nil)) de_int) (de_bin ow_mul1 (de_tup (da_cons de_int da_nil)) de_int)) (da_cons (de_tup (da_cons de_int (da_cons de_int (da_cons de_int da_nil)))) da_nil)))))))) (dg_nm sc_law.nd rfl (by first | exact Or.inl rfl | exact Or.inr rfl)) (dss_one (ds_if (dt_cmp ow_isNot (de_call g ((ok_is_ring T).mono (by decide)) hr (by rfl) T.m_is_ring T.F_is_ring.kp T.b_is_ring (da_cons (de_var 3) da_nil)) de_bl (nomark _)) (dss_one (ds_ret de_bl)) dss_nil)))
    (dss_cons (ds_set (i := 4) sc_law.nd rfl (by first | exact Or.inl rfl | exact Or.inr rfl) (de_val (fe_lst (da_cons de_non (da_cons de_int (da_cons de_bl (da_cons de_str (da_cons de_str (da_cons (de_tup da_nil) (da_cons (de_val (fe_lst (da_cons de_int da_nil))) (da_cons (de_val (fe_callTy ow_list (by rfl) T.z_list b_list (da_cons (de_var 2) da_nil))) (da_cons (de_tup (da_cons de_int da_nil)) (da_cons (de_tup (da_cons de_int (da_cons de_int da_nil))) (da_cons (de_tup (da_cons de_int (da_cons de_int (da_cons de_int da_nil)))) (da_cons (de_tup (da_cons de_int (da_cons de_int (da_cons de_bl da_nil)))) (da_cons (de_tup (da_cons de_int (da_cons de_bl (da_cons de_int da_nil)))) da_nil))))))))))))))))
    (dss_cons (ds_set (i := 4) sc_law.nd rfl (by first | exact Or.inl rfl | exact Or.inr rfl) (de_bin ow_add (de_var 4) (de_val (fe_lst (da_cons (de_tup (da_cons de_int (da_cons de_int (da_cons de_non da_nil)))) (da_cons (de_tup (da_cons de_int (da_cons de_int (da_cons de_str da_nil)))) (da_cons (de_tup (da_cons (de_tup (da_cons de_int da_nil)) da_nil)) (da_cons (de_tup (da_cons de_int (da_cons de_int (da_cons (de_un ow_neg de_int) da_nil)))) (da_cons (de_bin ow_mul1 (de_tup (da_cons de_int da_nil)) de_int) (da_cons (de_bin ow_add (de_bin ow_mul1 (de_tup (da_cons de_int da_nil)) de_int) (de_bin ow_mul1 (de_tup (da_cons de_int da_nil)) de_int)) da_nil))))))))))
    (dss_cons (ds_set (i := 4) sc_law.nd rfl (by first | exact Or.inl rfl | exact Or.inr rfl) (de_bin ow_add (de_var 4) (de_val (fe_lst (da_cons (de_bin ow_mul1 (de_tup (da_cons de_int (da_cons de_int da_nil))) de_int) (da_cons (de_bin ow_add (de_var 2) (de_bin ow_mul1 (de_tup (da_cons de_int da_nil)) (de_callB ow_len (by rfl) T.z_len b_len (da_cons (de_var 2) da_nil)))) (da_cons (de_tup (da_cons de_int (da_cons de_int (da_cons (de_tup (da_cons de_int da_nil)) da_nil)))) (da_cons de_str da_nil))))))))
    (dss_cons (ds_for g (di_seq (de_var 4)) (dg_nm sc_law.nd rfl (by first | exact Or.inl rfl | exact Or.inr rfl)) (dss_one (ds_if (dt_cmp ow_isNot (de_call g ((ok_is_ring T).mono (by decide)) hr (by rfl) T.m_is_ring T.F_is_ring.kp T.b_is_ring (da_cons (de_var 3) da_nil)) de_bl (nomark _)) (dss_one (ds_ret de_bl)) dss_nil)))
    (dss_cons (ds_set (i := 5) sc_law.nd rfl (by first | exact Or.inl rfl | exact Or.inr rfl) (de_ix (de_var 4) (de_call g ((ok_law_take T).mono (by decide)) hr (by rfl) T.m_law_take T.F_law_take.kp T.b_law_take (da_cons (de_var 1) (da_cons (de_callB ow_len (by rfl) T.z_len b_len (da_cons (de_var 4) da_nil)) da_nil))) (fun _ _ => rfl)))
    (dss_cons (ds_for g (di_rng1 (by rfl) T.z_range (da_cons de_int da_nil)) (dg_nm sc_law.nd rfl (by first | exact Or.inl rfl | exact Or.inr rfl)) (dss_one (ds_if (dt_not (dt_tru (de_call g ((ok_law_refused T).mono (by decide)) hr (by rfl) T.m_law_refused T.F_law_refused.kp T.b_law_refused (da_cons (de_var 6) (da_cons (de_var 5) (da_cons (de_var 2) (da_cons de_int da_nil))))))) (dss_one (ds_ret de_bl)) dss_nil)))
    (dss_cons (ds_set (i := 7) sc_law.nd rfl (by first | exact Or.inl rfl | exact Or.inr rfl) (de_ix (de_val (fe_lst (da_cons de_int (da_cons (de_un ow_neg de_int) (da_cons de_int (da_cons de_bl (da_cons de_non (da_cons de_str (da_cons (de_tup (da_cons de_int da_nil)) (da_cons (de_bin ow_pow de_int de_int) da_nil)))))))))) (de_call g ((ok_law_take T).mono (by decide)) hr (by rfl) T.m_law_take T.F_law_take.kp T.b_law_take (da_cons (de_var 1) (da_cons de_int da_nil))) (fun _ _ => rfl)))
    (dss_cons (ds_for g (di_rng2 (by rfl) T.z_range (da_cons de_int (da_cons de_int da_nil))) (dg_nm sc_law.nd rfl (by first | exact Or.inl rfl | exact Or.inr rfl)) (dss_one (ds_if (dt_not (dt_tru (de_call g ((ok_law_refused T).mono (by decide)) hr (by rfl) T.m_law_refused T.F_law_refused.kp T.b_law_refused (da_cons (de_var 6) (da_cons (de_var 2) (da_cons (de_var 2) (da_cons (de_var 7) da_nil))))))) (dss_one (ds_ret de_bl)) dss_nil)))
    (dss_cons (ds_for g (di_seq (de_val (fe_lst (da_cons (de_bin ow_sub (de_call g ((ok_law_take T).mono (by decide)) hr (by rfl) T.m_law_take T.F_law_take.kp T.b_law_take (da_cons (de_var 1) (da_cons de_int da_nil))) de_int) (da_cons (de_bin ow_add (de_bin ow_pow de_int de_int) (de_call g ((ok_law_take T).mono (by decide)) hr (by rfl) T.m_law_take T.F_law_take.kp T.b_law_take (da_cons (de_var 1) (da_cons de_int da_nil)))) (da_cons de_int da_nil)))))) (dg_nm sc_law.nd rfl (by first | exact Or.inl rfl | exact Or.inr rfl)) (dss_one (ds_if (dt_cmp (ow_ne hr.units) (de_call g ((ok_law_honest T).mono (by decide)) hr (by rfl) T.m_law_honest T.F_law_honest.kp T.b_law_honest (da_cons (de_call g ((ok_turned_ring T).mono (by decide)) hr (by rfl) T.m_turned_ring T.F_turned_ring.kp T.b_turned_ring (da_cons (de_var 2) (da_cons (de_var 8) da_nil))) da_nil)) (de_call g ((ok_law_turned T).mono (by decide)) hr (by rfl) T.m_law_turned T.F_law_turned.kp T.b_law_turned (da_cons (de_var 2) (da_cons (de_var 8) da_nil))) (nomark _)) (dss_one (ds_ret de_bl)) dss_nil)))
    (dss_one (ds_ret de_bl))))))))))))))
/-! the facts from the top -/
def txt_mk {K : PySem.W.Frag} {h : Heap} {mg : Str → Option Value} (X : K.In h) (G : h.Ns mainGlobals mg)
    {f_is_integer : Addr} {od_is_integer an_is_integer : Option Addr} {sl_is_integer : Array (Option Value)} {oc_is_integer kV_is_integer dc_is_integer pm_is_integer cd_is_integer ct_is_integer : Value}
    {f_is_ring : Addr} {od_is_ring an_is_ring : Option Addr} {sl_is_ring : Array (Option Value)} {oc_is_ring kV_is_ring dc_is_ring pm_is_ring cd_is_ring ct_is_ring : Value}
    {f_check_ring : Addr} {od_check_ring an_check_ring : Option Addr} {sl_check_ring : Array (Option Value)} {oc_check_ring kV_check_ring dc_check_ring pm_check_ring cd_check_ring ct_check_ring : Value}
    {f_turned_ring : Addr} {od_turned_ring an_turned_ring : Option Addr} {sl_turned_ring : Array (Option Value)} {oc_turned_ring kV_turned_ring dc_turned_ring pm_turned_ring cd_turned_ring ct_turned_ring : Value}
    {f_law_state : Addr} {od_law_state an_law_state : Option Addr} {sl_law_state : Array (Option Value)} {oc_law_state kV_law_state dc_law_state pm_law_state cd_law_state ct_law_state : Value}
    {f_law_odd : Addr} {od_law_odd an_law_odd : Option Addr} {sl_law_odd : Array (Option Value)} {oc_law_odd kV_law_odd dc_law_odd pm_law_odd cd_law_odd ct_law_odd : Value}
    {f_law_honest : Addr} {od_law_honest an_law_honest : Option Addr} {sl_law_honest : Array (Option Value)} {oc_law_honest kV_law_honest dc_law_honest pm_law_honest cd_law_honest ct_law_honest : Value}
    {f_law_take : Addr} {od_law_take an_law_take : Option Addr} {sl_law_take : Array (Option Value)} {oc_law_take kV_law_take dc_law_take pm_law_take cd_law_take ct_law_take : Value}
    {f_law_ring : Addr} {od_law_ring an_law_ring : Option Addr} {sl_law_ring : Array (Option Value)} {oc_law_ring kV_law_ring dc_law_ring pm_law_ring cd_law_ring ct_law_ring : Value}
    {f_law_turned : Addr} {od_law_turned an_law_turned : Option Addr} {sl_law_turned : Array (Option Value)} {oc_law_turned kV_law_turned dc_law_turned pm_law_turned cd_law_turned ct_law_turned : Value}
    {f_gone_round : Addr} {od_gone_round an_gone_round : Option Addr} {sl_gone_round : Array (Option Value)} {oc_gone_round kV_gone_round dc_gone_round pm_gone_round cd_gone_round ct_gone_round : Value}
    {f_is_room : Addr} {od_is_room an_is_room : Option Addr} {sl_is_room : Array (Option Value)} {oc_is_room kV_is_room dc_is_room pm_is_room cd_is_room ct_is_room : Value}
    {f_check_carrier : Addr} {od_check_carrier an_check_carrier : Option Addr} {sl_check_carrier : Array (Option Value)} {oc_check_carrier kV_check_carrier dc_check_carrier pm_check_carrier cd_check_carrier ct_check_carrier : Value}
    {f_carried_ring : Addr} {od_carried_ring an_carried_ring : Option Addr} {sl_carried_ring : Array (Option Value)} {oc_carried_ring kV_carried_ring dc_carried_ring pm_carried_ring cd_carried_ring ct_carried_ring : Value}
    {f_carried_ring_back : Addr} {od_carried_ring_back an_carried_ring_back : Option Addr} {sl_carried_ring_back : Array (Option Value)} {oc_carried_ring_back kV_carried_ring_back dc_carried_ring_back pm_carried_ring_back cd_carried_ring_back ct_carried_ring_back : Value}
    {f_is_high : Addr} {od_is_high an_is_high : Option Addr} {sl_is_high : Array (Option Value)} {oc_is_high kV_is_high dc_is_high pm_is_high cd_is_high ct_is_high : Value}
    {f_least_turn : Addr} {od_least_turn an_least_turn : Option Addr} {sl_least_turn : Array (Option Value)} {oc_least_turn kV_least_turn dc_least_turn pm_least_turn cd_least_turn ct_least_turn : Value}
    {f_high_strings : Addr} {od_high_strings an_high_strings : Option Addr} {sl_high_strings : Array (Option Value)} {oc_high_strings kV_high_strings dc_high_strings pm_high_strings cd_high_strings ct_high_strings : Value}
    {f_shape_of_ring : Addr} {od_shape_of_ring an_shape_of_ring : Option Addr} {sl_shape_of_ring : Array (Option Value)} {oc_shape_of_ring kV_shape_of_ring dc_shape_of_ring pm_shape_of_ring cd_shape_of_ring ct_shape_of_ring : Value}
    {f_angles : Addr} {od_angles an_angles : Option Addr} {sl_angles : Array (Option Value)} {oc_angles kV_angles dc_angles pm_angles cd_angles ct_angles : Value}
    {f_turnings : Addr} {od_turnings an_turnings : Option Addr} {sl_turnings : Array (Option Value)} {oc_turnings kV_turnings dc_turnings pm_turnings cd_turnings ct_turnings : Value}
    {f_gaps_by_length : Addr} {od_gaps_by_length an_gaps_by_length : Option Addr} {sl_gaps_by_length : Array (Option Value)} {oc_gaps_by_length kV_gaps_by_length dc_gaps_by_length pm_gaps_by_length cd_gaps_by_length ct_gaps_by_length : Value}
    {f_road_name : Addr} {od_road_name an_road_name : Option Addr} {sl_road_name : Array (Option Value)} {oc_road_name kV_road_name dc_road_name pm_road_name cd_road_name ct_road_name : Value}
    {f_table_of : Addr} {od_table_of an_table_of : Option Addr} {sl_table_of : Array (Option Value)} {oc_table_of kV_table_of dc_table_of pm_table_of cd_table_of ct_table_of : Value}
    {f_road_table : Addr} {od_road_table an_road_table : Option Addr} {sl_road_table : Array (Option Value)} {oc_road_table kV_road_table dc_road_table pm_road_table cd_road_table ct_road_table : Value}
    {f_determinant : Addr} {od_determinant an_determinant : Option Addr} {sl_determinant : Array (Option Value)} {oc_determinant kV_determinant dc_determinant pm_determinant cd_determinant ct_determinant : Value}
    {f_road_size : Addr} {od_road_size an_road_size : Option Addr} {sl_road_size : Array (Option Value)} {oc_road_size kV_road_size dc_road_size pm_road_size cd_road_size ct_road_size : Value}
    {f_divisors : Addr} {od_divisors an_divisors : Option Addr} {sl_divisors : Array (Option Value)} {oc_divisors kV_divisors dc_divisors pm_divisors cd_divisors ct_divisors : Value}
    {f_road_divisors : Addr} {od_road_divisors an_road_divisors : Option Addr} {sl_road_divisors : Array (Option Value)} {oc_road_divisors kV_road_divisors dc_road_divisors pm_road_divisors cd_road_divisors ct_road_divisors : Value}
    {f_slid : Addr} {od_slid an_slid : Option Addr} {sl_slid : Array (Option Value)} {oc_slid kV_slid dc_slid pm_slid cd_slid ct_slid : Value}
    {f_difference : Addr} {od_difference an_difference : Option Addr} {sl_difference : Array (Option Value)} {oc_difference kV_difference dc_difference pm_difference cd_difference ct_difference : Value}
    {f_told_runs : Addr} {od_told_runs an_told_runs : Option Addr} {sl_told_runs : Array (Option Value)} {oc_told_runs kV_told_runs dc_told_runs pm_told_runs cd_told_runs ct_told_runs : Value}
    {f_joint_road : Addr} {od_joint_road an_joint_road : Option Addr} {sl_joint_road : Array (Option Value)} {oc_joint_road kV_joint_road dc_joint_road pm_joint_road cd_joint_road ct_joint_road : Value}
    {f_order_modulo : Addr} {od_order_modulo an_order_modulo : Option Addr} {sl_order_modulo : Array (Option Value)} {oc_order_modulo kV_order_modulo dc_order_modulo pm_order_modulo cd_order_modulo ct_order_modulo : Value}
    {f_run_row : Addr} {od_run_row an_run_row : Option Addr} {sl_run_row : Array (Option Value)} {oc_run_row kV_run_row dc_run_row pm_run_row cd_run_row ct_run_row : Value}
    {f_period : Addr} {od_period an_period : Option Addr} {sl_period : Array (Option Value)} {oc_period kV_period dc_period pm_period cd_period ct_period : Value}
    {f_solve : Addr} {od_solve an_solve : Option Addr} {sl_solve : Array (Option Value)} {oc_solve kV_solve dc_solve pm_solve cd_solve ct_solve : Value}
    {f_one_carrier : Addr} {od_one_carrier an_one_carrier : Option Addr} {sl_one_carrier : Array (Option Value)} {oc_one_carrier kV_one_carrier dc_one_carrier pm_one_carrier cd_one_carrier ct_one_carrier : Value}
    {f_ring_of : Addr} {od_ring_of an_ring_of : Option Addr} {sl_ring_of : Array (Option Value)} {oc_ring_of kV_ring_of dc_ring_of pm_ring_of cd_ring_of ct_ring_of : Value}
    {f_far_around : Addr} {od_far_around an_far_around : Option Addr} {sl_far_around : Array (Option Value)} {oc_far_around kV_far_around dc_far_around pm_far_around cd_far_around ct_far_around : Value}
    {f_law_call : Addr} {od_law_call an_law_call : Option Addr} {sl_law_call : Array (Option Value)} {oc_law_call kV_law_call dc_law_call pm_law_call cd_law_call ct_law_call : Value}
    {f_law_refused : Addr} {od_law_refused an_law_refused : Option Addr} {sl_law_refused : Array (Option Value)} {oc_law_refused kV_law_refused dc_law_refused pm_law_refused cd_law_refused ct_law_refused : Value}
    {f_law : Addr} {od_law an_law : Option Addr} {sl_law : Array (Option Value)} {oc_law kV_law dc_law pm_law cd_law ct_law : Value}
    {t_MOST_CARRIER : Tok}
    {t_MOST_LENGTH : Tok}
    {t_MOST_RUNS : Tok}
    {C_Malformed : Addr}
    (a1_is_integer : PySem.W.nsIn K mainGlobals "is_integer" = some (some (.ref f_is_integer))) (l1_is_integer : K.lookup f_is_integer = some ⟨oc_is_integer, od_is_integer, .func (PySem.W.fnOf "is_integer" "is_integer" (defArgs s_is_integer) (defBody s_is_integer) (defScope s_is_integer) .none kV_is_integer dc_is_integer pm_is_integer an_is_integer cd_is_integer ct_is_integer), sl_is_integer⟩) (c1_is_integer : PySem.W.codeIn K cd_is_integer "is_integer" = true) (k1_is_integer : PySem.W.keepIn K (.ref f_is_integer) = true)
    (a1_is_ring : PySem.W.nsIn K mainGlobals "is_ring" = some (some (.ref f_is_ring))) (l1_is_ring : K.lookup f_is_ring = some ⟨oc_is_ring, od_is_ring, .func (PySem.W.fnOf "is_ring" "is_ring" (defArgs s_is_ring) (defBody s_is_ring) (defScope s_is_ring) .none kV_is_ring dc_is_ring pm_is_ring an_is_ring cd_is_ring ct_is_ring), sl_is_ring⟩) (c1_is_ring : PySem.W.codeIn K cd_is_ring "is_ring" = true) (k1_is_ring : PySem.W.keepIn K (.ref f_is_ring) = true)
    (a1_check_ring : PySem.W.nsIn K mainGlobals "check_ring" = some (some (.ref f_check_ring))) (l1_check_ring : K.lookup f_check_ring = some ⟨oc_check_ring, od_check_ring, .func (PySem.W.fnOf "check_ring" "check_ring" (defArgs s_check_ring) (defBody s_check_ring) (defScope s_check_ring) .none kV_check_ring dc_check_ring pm_check_ring an_check_ring cd_check_ring ct_check_ring), sl_check_ring⟩) (c1_check_ring : PySem.W.codeIn K cd_check_ring "check_ring" = true) (k1_check_ring : PySem.W.keepIn K (.ref f_check_ring) = true)
    (a1_turned_ring : PySem.W.nsIn K mainGlobals "turned_ring" = some (some (.ref f_turned_ring))) (l1_turned_ring : K.lookup f_turned_ring = some ⟨oc_turned_ring, od_turned_ring, .func (PySem.W.fnOf "turned_ring" "turned_ring" (defArgs s_turned_ring) (defBody s_turned_ring) (defScope s_turned_ring) .none kV_turned_ring dc_turned_ring pm_turned_ring an_turned_ring cd_turned_ring ct_turned_ring), sl_turned_ring⟩) (c1_turned_ring : PySem.W.codeIn K cd_turned_ring "turned_ring" = true) (k1_turned_ring : PySem.W.keepIn K (.ref f_turned_ring) = true)
    (a1_law_state : PySem.W.nsIn K mainGlobals "_law_state" = some (some (.ref f_law_state))) (l1_law_state : K.lookup f_law_state = some ⟨oc_law_state, od_law_state, .func (PySem.W.fnOf "_law_state" "_law_state" (defArgs s_law_state) (defBody s_law_state) (defScope s_law_state) .none kV_law_state dc_law_state pm_law_state an_law_state cd_law_state ct_law_state), sl_law_state⟩) (c1_law_state : PySem.W.codeIn K cd_law_state "_law_state" = true) (k1_law_state : PySem.W.keepIn K (.ref f_law_state) = true)
    (a1_law_odd : PySem.W.nsIn K mainGlobals "_law_odd" = some (some (.ref f_law_odd))) (l1_law_odd : K.lookup f_law_odd = some ⟨oc_law_odd, od_law_odd, .func (PySem.W.fnOf "_law_odd" "_law_odd" (defArgs s_law_odd) (defBody s_law_odd) (defScope s_law_odd) .none kV_law_odd dc_law_odd pm_law_odd an_law_odd cd_law_odd ct_law_odd), sl_law_odd⟩) (c1_law_odd : PySem.W.codeIn K cd_law_odd "_law_odd" = true) (k1_law_odd : PySem.W.keepIn K (.ref f_law_odd) = true)
    (a1_law_honest : PySem.W.nsIn K mainGlobals "_law_honest" = some (some (.ref f_law_honest))) (l1_law_honest : K.lookup f_law_honest = some ⟨oc_law_honest, od_law_honest, .func (PySem.W.fnOf "_law_honest" "_law_honest" (defArgs s_law_honest) (defBody s_law_honest) (defScope s_law_honest) .none kV_law_honest dc_law_honest pm_law_honest an_law_honest cd_law_honest ct_law_honest), sl_law_honest⟩) (c1_law_honest : PySem.W.codeIn K cd_law_honest "_law_honest" = true) (k1_law_honest : PySem.W.keepIn K (.ref f_law_honest) = true)
    (a1_law_take : PySem.W.nsIn K mainGlobals "_law_take" = some (some (.ref f_law_take))) (l1_law_take : K.lookup f_law_take = some ⟨oc_law_take, od_law_take, .func (PySem.W.fnOf "_law_take" "_law_take" (defArgs s_law_take) (defBody s_law_take) (defScope s_law_take) .none kV_law_take dc_law_take pm_law_take an_law_take cd_law_take ct_law_take), sl_law_take⟩) (c1_law_take : PySem.W.codeIn K cd_law_take "_law_take" = true) (k1_law_take : PySem.W.keepIn K (.ref f_law_take) = true)
    (a1_law_ring : PySem.W.nsIn K mainGlobals "_law_ring" = some (some (.ref f_law_ring))) (l1_law_ring : K.lookup f_law_ring = some ⟨oc_law_ring, od_law_ring, .func (PySem.W.fnOf "_law_ring" "_law_ring" (defArgs s_law_ring) (defBody s_law_ring) (defScope s_law_ring) .none kV_law_ring dc_law_ring pm_law_ring an_law_ring cd_law_ring ct_law_ring), sl_law_ring⟩) (c1_law_ring : PySem.W.codeIn K cd_law_ring "_law_ring" = true) (k1_law_ring : PySem.W.keepIn K (.ref f_law_ring) = true)
    (a1_law_turned : PySem.W.nsIn K mainGlobals "_law_turned" = some (some (.ref f_law_turned))) (l1_law_turned : K.lookup f_law_turned = some ⟨oc_law_turned, od_law_turned, .func (PySem.W.fnOf "_law_turned" "_law_turned" (defArgs s_law_turned) (defBody s_law_turned) (defScope s_law_turned) .none kV_law_turned dc_law_turned pm_law_turned an_law_turned cd_law_turned ct_law_turned), sl_law_turned⟩) (c1_law_turned : PySem.W.codeIn K cd_law_turned "_law_turned" = true) (k1_law_turned : PySem.W.keepIn K (.ref f_law_turned) = true)
    (a1_gone_round : PySem.W.nsIn K mainGlobals "gone_round" = some (some (.ref f_gone_round))) (l1_gone_round : K.lookup f_gone_round = some ⟨oc_gone_round, od_gone_round, .func (PySem.W.fnOf "gone_round" "gone_round" (defArgs s_gone_round) (defBody s_gone_round) (defScope s_gone_round) .none kV_gone_round dc_gone_round pm_gone_round an_gone_round cd_gone_round ct_gone_round), sl_gone_round⟩) (c1_gone_round : PySem.W.codeIn K cd_gone_round "gone_round" = true) (k1_gone_round : PySem.W.keepIn K (.ref f_gone_round) = true)
    (a1_is_room : PySem.W.nsIn K mainGlobals "is_room" = some (some (.ref f_is_room))) (l1_is_room : K.lookup f_is_room = some ⟨oc_is_room, od_is_room, .func (PySem.W.fnOf "is_room" "is_room" (defArgs s_is_room) (defBody s_is_room) (defScope s_is_room) .none kV_is_room dc_is_room pm_is_room an_is_room cd_is_room ct_is_room), sl_is_room⟩) (c1_is_room : PySem.W.codeIn K cd_is_room "is_room" = true) (k1_is_room : PySem.W.keepIn K (.ref f_is_room) = true)
    (a1_check_carrier : PySem.W.nsIn K mainGlobals "check_carrier" = some (some (.ref f_check_carrier))) (l1_check_carrier : K.lookup f_check_carrier = some ⟨oc_check_carrier, od_check_carrier, .func (PySem.W.fnOf "check_carrier" "check_carrier" (defArgs s_check_carrier) (defBody s_check_carrier) (defScope s_check_carrier) .none kV_check_carrier dc_check_carrier pm_check_carrier an_check_carrier cd_check_carrier ct_check_carrier), sl_check_carrier⟩) (c1_check_carrier : PySem.W.codeIn K cd_check_carrier "check_carrier" = true) (k1_check_carrier : PySem.W.keepIn K (.ref f_check_carrier) = true)
    (a1_carried_ring : PySem.W.nsIn K mainGlobals "carried_ring" = some (some (.ref f_carried_ring))) (l1_carried_ring : K.lookup f_carried_ring = some ⟨oc_carried_ring, od_carried_ring, .func (PySem.W.fnOf "carried_ring" "carried_ring" (defArgs s_carried_ring) (defBody s_carried_ring) (defScope s_carried_ring) .none kV_carried_ring dc_carried_ring pm_carried_ring an_carried_ring cd_carried_ring ct_carried_ring), sl_carried_ring⟩) (c1_carried_ring : PySem.W.codeIn K cd_carried_ring "carried_ring" = true) (k1_carried_ring : PySem.W.keepIn K (.ref f_carried_ring) = true)
    (a1_carried_ring_back : PySem.W.nsIn K mainGlobals "carried_ring_back" = some (some (.ref f_carried_ring_back))) (l1_carried_ring_back : K.lookup f_carried_ring_back = some ⟨oc_carried_ring_back, od_carried_ring_back, .func (PySem.W.fnOf "carried_ring_back" "carried_ring_back" (defArgs s_carried_ring_back) (defBody s_carried_ring_back) (defScope s_carried_ring_back) .none kV_carried_ring_back dc_carried_ring_back pm_carried_ring_back an_carried_ring_back cd_carried_ring_back ct_carried_ring_back), sl_carried_ring_back⟩) (c1_carried_ring_back : PySem.W.codeIn K cd_carried_ring_back "carried_ring_back" = true) (k1_carried_ring_back : PySem.W.keepIn K (.ref f_carried_ring_back) = true)
    (a1_is_high : PySem.W.nsIn K mainGlobals "is_high" = some (some (.ref f_is_high))) (l1_is_high : K.lookup f_is_high = some ⟨oc_is_high, od_is_high, .func (PySem.W.fnOf "is_high" "is_high" (defArgs s_is_high) (defBody s_is_high) (defScope s_is_high) .none kV_is_high dc_is_high pm_is_high an_is_high cd_is_high ct_is_high), sl_is_high⟩) (c1_is_high : PySem.W.codeIn K cd_is_high "is_high" = true) (k1_is_high : PySem.W.keepIn K (.ref f_is_high) = true)
    (a1_least_turn : PySem.W.nsIn K mainGlobals "least_turn" = some (some (.ref f_least_turn))) (l1_least_turn : K.lookup f_least_turn = some ⟨oc_least_turn, od_least_turn, .func (PySem.W.fnOf "least_turn" "least_turn" (defArgs s_least_turn) (defBody s_least_turn) (defScope s_least_turn) .none kV_least_turn dc_least_turn pm_least_turn an_least_turn cd_least_turn ct_least_turn), sl_least_turn⟩) (c1_least_turn : PySem.W.codeIn K cd_least_turn "least_turn" = true) (k1_least_turn : PySem.W.keepIn K (.ref f_least_turn) = true)
    (a1_high_strings : PySem.W.nsIn K mainGlobals "high_strings" = some (some (.ref f_high_strings))) (l1_high_strings : K.lookup f_high_strings = some ⟨oc_high_strings, od_high_strings, .func (PySem.W.fnOf "high_strings" "high_strings" (defArgs s_high_strings) (defBody s_high_strings) (defScope s_high_strings) .none kV_high_strings dc_high_strings pm_high_strings an_high_strings cd_high_strings ct_high_strings), sl_high_strings⟩) (c1_high_strings : PySem.W.codeIn K cd_high_strings "high_strings" = true) (k1_high_strings : PySem.W.keepIn K (.ref f_high_strings) = true)
    (a1_shape_of_ring : PySem.W.nsIn K mainGlobals "shape_of_ring" = some (some (.ref f_shape_of_ring))) (l1_shape_of_ring : K.lookup f_shape_of_ring = some ⟨oc_shape_of_ring, od_shape_of_ring, .func (PySem.W.fnOf "shape_of_ring" "shape_of_ring" (defArgs s_shape_of_ring) (defBody s_shape_of_ring) (defScope s_shape_of_ring) .none kV_shape_of_ring dc_shape_of_ring pm_shape_of_ring an_shape_of_ring cd_shape_of_ring ct_shape_of_ring), sl_shape_of_ring⟩) (c1_shape_of_ring : PySem.W.codeIn K cd_shape_of_ring "shape_of_ring" = true) (k1_shape_of_ring : PySem.W.keepIn K (.ref f_shape_of_ring) = true)
    (a1_angles : PySem.W.nsIn K mainGlobals "angles" = some (some (.ref f_angles))) (l1_angles : K.lookup f_angles = some ⟨oc_angles, od_angles, .func (PySem.W.fnOf "angles" "angles" (defArgs s_angles) (defBody s_angles) (defScope s_angles) .none kV_angles dc_angles pm_angles an_angles cd_angles ct_angles), sl_angles⟩) (c1_angles : PySem.W.codeIn K cd_angles "angles" = true) (k1_angles : PySem.W.keepIn K (.ref f_angles) = true)
    (a1_turnings : PySem.W.nsIn K mainGlobals "turnings" = some (some (.ref f_turnings))) (l1_turnings : K.lookup f_turnings = some ⟨oc_turnings, od_turnings, .func (PySem.W.fnOf "turnings" "turnings" (defArgs s_turnings) (defBody s_turnings) (defScope s_turnings) .none kV_turnings dc_turnings pm_turnings an_turnings cd_turnings ct_turnings), sl_turnings⟩) (c1_turnings : PySem.W.codeIn K cd_turnings "turnings" = true) (k1_turnings : PySem.W.keepIn K (.ref f_turnings) = true)
    (a1_gaps_by_length : PySem.W.nsIn K mainGlobals "gaps_by_length" = some (some (.ref f_gaps_by_length))) (l1_gaps_by_length : K.lookup f_gaps_by_length = some ⟨oc_gaps_by_length, od_gaps_by_length, .func (PySem.W.fnOf "gaps_by_length" "gaps_by_length" (defArgs s_gaps_by_length) (defBody s_gaps_by_length) (defScope s_gaps_by_length) .none kV_gaps_by_length dc_gaps_by_length pm_gaps_by_length an_gaps_by_length cd_gaps_by_length ct_gaps_by_length), sl_gaps_by_length⟩) (c1_gaps_by_length : PySem.W.codeIn K cd_gaps_by_length "gaps_by_length" = true) (k1_gaps_by_length : PySem.W.keepIn K (.ref f_gaps_by_length) = true)
    (a1_road_name : PySem.W.nsIn K mainGlobals "road_name" = some (some (.ref f_road_name))) (l1_road_name : K.lookup f_road_name = some ⟨oc_road_name, od_road_name, .func (PySem.W.fnOf "road_name" "road_name" (defArgs s_road_name) (defBody s_road_name) (defScope s_road_name) .none kV_road_name dc_road_name pm_road_name an_road_name cd_road_name ct_road_name), sl_road_name⟩) (c1_road_name : PySem.W.codeIn K cd_road_name "road_name" = true) (k1_road_name : PySem.W.keepIn K (.ref f_road_name) = true)
    (a1_table_of : PySem.W.nsIn K mainGlobals "table_of" = some (some (.ref f_table_of))) (l1_table_of : K.lookup f_table_of = some ⟨oc_table_of, od_table_of, .func (PySem.W.fnOf "table_of" "table_of" (defArgs s_table_of) (defBody s_table_of) (defScope s_table_of) .none kV_table_of dc_table_of pm_table_of an_table_of cd_table_of ct_table_of), sl_table_of⟩) (c1_table_of : PySem.W.codeIn K cd_table_of "table_of" = true) (k1_table_of : PySem.W.keepIn K (.ref f_table_of) = true)
    (a1_road_table : PySem.W.nsIn K mainGlobals "road_table" = some (some (.ref f_road_table))) (l1_road_table : K.lookup f_road_table = some ⟨oc_road_table, od_road_table, .func (PySem.W.fnOf "road_table" "road_table" (defArgs s_road_table) (defBody s_road_table) (defScope s_road_table) .none kV_road_table dc_road_table pm_road_table an_road_table cd_road_table ct_road_table), sl_road_table⟩) (c1_road_table : PySem.W.codeIn K cd_road_table "road_table" = true) (k1_road_table : PySem.W.keepIn K (.ref f_road_table) = true)
    (a1_determinant : PySem.W.nsIn K mainGlobals "determinant" = some (some (.ref f_determinant))) (l1_determinant : K.lookup f_determinant = some ⟨oc_determinant, od_determinant, .func (PySem.W.fnOf "determinant" "determinant" (defArgs s_determinant) (defBody s_determinant) (defScope s_determinant) .none kV_determinant dc_determinant pm_determinant an_determinant cd_determinant ct_determinant), sl_determinant⟩) (c1_determinant : PySem.W.codeIn K cd_determinant "determinant" = true) (k1_determinant : PySem.W.keepIn K (.ref f_determinant) = true)
    (a1_road_size : PySem.W.nsIn K mainGlobals "road_size" = some (some (.ref f_road_size))) (l1_road_size : K.lookup f_road_size = some ⟨oc_road_size, od_road_size, .func (PySem.W.fnOf "road_size" "road_size" (defArgs s_road_size) (defBody s_road_size) (defScope s_road_size) .none kV_road_size dc_road_size pm_road_size an_road_size cd_road_size ct_road_size), sl_road_size⟩) (c1_road_size : PySem.W.codeIn K cd_road_size "road_size" = true) (k1_road_size : PySem.W.keepIn K (.ref f_road_size) = true)
    (a1_divisors : PySem.W.nsIn K mainGlobals "divisors" = some (some (.ref f_divisors))) (l1_divisors : K.lookup f_divisors = some ⟨oc_divisors, od_divisors, .func (PySem.W.fnOf "divisors" "divisors" (defArgs s_divisors) (defBody s_divisors) (defScope s_divisors) .none kV_divisors dc_divisors pm_divisors an_divisors cd_divisors ct_divisors), sl_divisors⟩) (c1_divisors : PySem.W.codeIn K cd_divisors "divisors" = true) (k1_divisors : PySem.W.keepIn K (.ref f_divisors) = true)
    (a1_road_divisors : PySem.W.nsIn K mainGlobals "road_divisors" = some (some (.ref f_road_divisors))) (l1_road_divisors : K.lookup f_road_divisors = some ⟨oc_road_divisors, od_road_divisors, .func (PySem.W.fnOf "road_divisors" "road_divisors" (defArgs s_road_divisors) (defBody s_road_divisors) (defScope s_road_divisors) .none kV_road_divisors dc_road_divisors pm_road_divisors an_road_divisors cd_road_divisors ct_road_divisors), sl_road_divisors⟩) (c1_road_divisors : PySem.W.codeIn K cd_road_divisors "road_divisors" = true) (k1_road_divisors : PySem.W.keepIn K (.ref f_road_divisors) = true)
    (a1_slid : PySem.W.nsIn K mainGlobals "slid" = some (some (.ref f_slid))) (l1_slid : K.lookup f_slid = some ⟨oc_slid, od_slid, .func (PySem.W.fnOf "slid" "slid" (defArgs s_slid) (defBody s_slid) (defScope s_slid) .none kV_slid dc_slid pm_slid an_slid cd_slid ct_slid), sl_slid⟩) (c1_slid : PySem.W.codeIn K cd_slid "slid" = true) (k1_slid : PySem.W.keepIn K (.ref f_slid) = true)
    (a1_difference : PySem.W.nsIn K mainGlobals "difference" = some (some (.ref f_difference))) (l1_difference : K.lookup f_difference = some ⟨oc_difference, od_difference, .func (PySem.W.fnOf "difference" "difference" (defArgs s_difference) (defBody s_difference) (defScope s_difference) .none kV_difference dc_difference pm_difference an_difference cd_difference ct_difference), sl_difference⟩) (c1_difference : PySem.W.codeIn K cd_difference "difference" = true) (k1_difference : PySem.W.keepIn K (.ref f_difference) = true)
    (a1_told_runs : PySem.W.nsIn K mainGlobals "told_runs" = some (some (.ref f_told_runs))) (l1_told_runs : K.lookup f_told_runs = some ⟨oc_told_runs, od_told_runs, .func (PySem.W.fnOf "told_runs" "told_runs" (defArgs s_told_runs) (defBody s_told_runs) (defScope s_told_runs) .none kV_told_runs dc_told_runs pm_told_runs an_told_runs cd_told_runs ct_told_runs), sl_told_runs⟩) (c1_told_runs : PySem.W.codeIn K cd_told_runs "told_runs" = true) (k1_told_runs : PySem.W.keepIn K (.ref f_told_runs) = true)
    (a1_joint_road : PySem.W.nsIn K mainGlobals "joint_road" = some (some (.ref f_joint_road))) (l1_joint_road : K.lookup f_joint_road = some ⟨oc_joint_road, od_joint_road, .func (PySem.W.fnOf "joint_road" "joint_road" (defArgs s_joint_road) (defBody s_joint_road) (defScope s_joint_road) .none kV_joint_road dc_joint_road pm_joint_road an_joint_road cd_joint_road ct_joint_road), sl_joint_road⟩) (c1_joint_road : PySem.W.codeIn K cd_joint_road "joint_road" = true) (k1_joint_road : PySem.W.keepIn K (.ref f_joint_road) = true)
    (a1_order_modulo : PySem.W.nsIn K mainGlobals "order_modulo" = some (some (.ref f_order_modulo))) (l1_order_modulo : K.lookup f_order_modulo = some ⟨oc_order_modulo, od_order_modulo, .func (PySem.W.fnOf "order_modulo" "order_modulo" (defArgs s_order_modulo) (defBody s_order_modulo) (defScope s_order_modulo) .none kV_order_modulo dc_order_modulo pm_order_modulo an_order_modulo cd_order_modulo ct_order_modulo), sl_order_modulo⟩) (c1_order_modulo : PySem.W.codeIn K cd_order_modulo "order_modulo" = true) (k1_order_modulo : PySem.W.keepIn K (.ref f_order_modulo) = true)
    (a1_run_row : PySem.W.nsIn K mainGlobals "run_row" = some (some (.ref f_run_row))) (l1_run_row : K.lookup f_run_row = some ⟨oc_run_row, od_run_row, .func (PySem.W.fnOf "run_row" "run_row" (defArgs s_run_row) (defBody s_run_row) (defScope s_run_row) .none kV_run_row dc_run_row pm_run_row an_run_row cd_run_row ct_run_row), sl_run_row⟩) (c1_run_row : PySem.W.codeIn K cd_run_row "run_row" = true) (k1_run_row : PySem.W.keepIn K (.ref f_run_row) = true)
    (a1_period : PySem.W.nsIn K mainGlobals "period" = some (some (.ref f_period))) (l1_period : K.lookup f_period = some ⟨oc_period, od_period, .func (PySem.W.fnOf "period" "period" (defArgs s_period) (defBody s_period) (defScope s_period) .none kV_period dc_period pm_period an_period cd_period ct_period), sl_period⟩) (c1_period : PySem.W.codeIn K cd_period "period" = true) (k1_period : PySem.W.keepIn K (.ref f_period) = true)
    (a1_solve : PySem.W.nsIn K mainGlobals "solve" = some (some (.ref f_solve))) (l1_solve : K.lookup f_solve = some ⟨oc_solve, od_solve, .func (PySem.W.fnOf "solve" "solve" (defArgs s_solve) (defBody s_solve) (defScope s_solve) .none kV_solve dc_solve pm_solve an_solve cd_solve ct_solve), sl_solve⟩) (c1_solve : PySem.W.codeIn K cd_solve "solve" = true) (k1_solve : PySem.W.keepIn K (.ref f_solve) = true)
    (a1_one_carrier : PySem.W.nsIn K mainGlobals "one_carrier" = some (some (.ref f_one_carrier))) (l1_one_carrier : K.lookup f_one_carrier = some ⟨oc_one_carrier, od_one_carrier, .func (PySem.W.fnOf "one_carrier" "one_carrier" (defArgs s_one_carrier) (defBody s_one_carrier) (defScope s_one_carrier) .none kV_one_carrier dc_one_carrier pm_one_carrier an_one_carrier cd_one_carrier ct_one_carrier), sl_one_carrier⟩) (c1_one_carrier : PySem.W.codeIn K cd_one_carrier "one_carrier" = true) (k1_one_carrier : PySem.W.keepIn K (.ref f_one_carrier) = true)
    (a1_ring_of : PySem.W.nsIn K mainGlobals "ring_of" = some (some (.ref f_ring_of))) (l1_ring_of : K.lookup f_ring_of = some ⟨oc_ring_of, od_ring_of, .func (PySem.W.fnOf "ring_of" "ring_of" (defArgs s_ring_of) (defBody s_ring_of) (defScope s_ring_of) .none kV_ring_of dc_ring_of pm_ring_of an_ring_of cd_ring_of ct_ring_of), sl_ring_of⟩) (c1_ring_of : PySem.W.codeIn K cd_ring_of "ring_of" = true) (k1_ring_of : PySem.W.keepIn K (.ref f_ring_of) = true)
    (a1_far_around : PySem.W.nsIn K mainGlobals "far_around" = some (some (.ref f_far_around))) (l1_far_around : K.lookup f_far_around = some ⟨oc_far_around, od_far_around, .func (PySem.W.fnOf "far_around" "far_around" (defArgs s_far_around) (defBody s_far_around) (defScope s_far_around) .none kV_far_around dc_far_around pm_far_around an_far_around cd_far_around ct_far_around), sl_far_around⟩) (c1_far_around : PySem.W.codeIn K cd_far_around "far_around" = true) (k1_far_around : PySem.W.keepIn K (.ref f_far_around) = true)
    (a1_law_call : PySem.W.nsIn K mainGlobals "_law_call" = some (some (.ref f_law_call))) (l1_law_call : K.lookup f_law_call = some ⟨oc_law_call, od_law_call, .func (PySem.W.fnOf "_law_call" "_law_call" (defArgs s_law_call) (defBody s_law_call) (defScope s_law_call) .none kV_law_call dc_law_call pm_law_call an_law_call cd_law_call ct_law_call), sl_law_call⟩) (c1_law_call : PySem.W.codeIn K cd_law_call "_law_call" = true) (k1_law_call : PySem.W.keepIn K (.ref f_law_call) = true)
    (a1_law_refused : PySem.W.nsIn K mainGlobals "_law_refused" = some (some (.ref f_law_refused))) (l1_law_refused : K.lookup f_law_refused = some ⟨oc_law_refused, od_law_refused, .func (PySem.W.fnOf "_law_refused" "_law_refused" (defArgs s_law_refused) (defBody s_law_refused) (defScope s_law_refused) .none kV_law_refused dc_law_refused pm_law_refused an_law_refused cd_law_refused ct_law_refused), sl_law_refused⟩) (c1_law_refused : PySem.W.codeIn K cd_law_refused "_law_refused" = true) (k1_law_refused : PySem.W.keepIn K (.ref f_law_refused) = true)
    (a1_law : PySem.W.nsIn K mainGlobals "law" = some (some (.ref f_law))) (l1_law : K.lookup f_law = some ⟨oc_law, od_law, .func (PySem.W.fnOf "law" "law" (defArgs s_law) (defBody s_law) (defScope s_law) .none kV_law dc_law pm_law an_law cd_law ct_law), sl_law⟩) (c1_law : PySem.W.codeIn K cd_law "law" = true) (k1_law : PySem.W.keepIn K (.ref f_law) = true)
    (z1_abs : PySem.W.nsIn K mainGlobals "abs" = some none)
    (z1_all : PySem.W.nsIn K mainGlobals "all" = some none)
    (z1_bool : PySem.W.nsIn K mainGlobals "bool" = some none)
    (z1_int : PySem.W.nsIn K mainGlobals "int" = some none)
    (z1_isinstance : PySem.W.nsIn K mainGlobals "isinstance" = some none)
    (z1_len : PySem.W.nsIn K mainGlobals "len" = some none)
    (z1_list : PySem.W.nsIn K mainGlobals "list" = some none)
    (z1_min : PySem.W.nsIn K mainGlobals "min" = some none)
    (z1_range : PySem.W.nsIn K mainGlobals "range" = some none)
    (z1_sum : PySem.W.nsIn K mainGlobals "sum" = some none)
    (z1_tuple : PySem.W.nsIn K mainGlobals "tuple" = some none)
    (c2_MOST_CARRIER : PySem.W.nsIn K mainGlobals "MOST_CARRIER" = some (some (.int 1000 t_MOST_CARRIER)))
    (c2_MOST_LENGTH : PySem.W.nsIn K mainGlobals "MOST_LENGTH" = some (some (.int 40 t_MOST_LENGTH)))
    (c2_MOST_RUNS : PySem.W.nsIn K mainGlobals "MOST_RUNS" = some (some (.int 1000000000 t_MOST_RUNS)))
    (e1_Malformed : PySem.W.nsIn K mainGlobals "Malformed" = some (some (.ref C_Malformed))) (e2_Malformed : PySem.W.excIn K C_Malformed [.type "ValueError", .type "Exception", .type "BaseException", .type "object"] "ValueError.__new__" = true) (e3_Malformed : PySem.W.keepIn K (.ref C_Malformed) = true) (e4_Malformed : PySem.W.subIn K (.ref C_Malformed) (.type "BaseException") = some true) (e5_Malformed : PySem.W.typeIn K (.ref C_Malformed) = some (.type "type"))
    (e6_Malformed : PySem.W.isClsIn K C_Malformed = true) (e7_Malformed : PySem.W.subIn K (.ref C_Malformed) (.ref C_Malformed) = some true) : Txt K mg where
  a_is_integer := f_is_integer
  d_is_integer := _
  F_is_integer := fun_mk (st := s_is_integer) l1_is_integer c1_is_integer k1_is_integer
  b_is_integer := (fun_mk (st := s_is_integer) l1_is_integer c1_is_integer k1_is_integer).binds (ps := ["value"]) fun _ _ _ _ _ _ us hl => match us, hl with | [_], _ => rfl
  m_is_integer := PySem.W.mg_of X G a1_is_integer
  a_is_ring := f_is_ring
  d_is_ring := _
  F_is_ring := fun_mk (st := s_is_ring) l1_is_ring c1_is_ring k1_is_ring
  b_is_ring := (fun_mk (st := s_is_ring) l1_is_ring c1_is_ring k1_is_ring).binds (ps := ["value"]) fun _ _ _ _ _ _ us hl => match us, hl with | [_], _ => rfl
  m_is_ring := PySem.W.mg_of X G a1_is_ring
  a_check_ring := f_check_ring
  d_check_ring := _
  F_check_ring := fun_mk (st := s_check_ring) l1_check_ring c1_check_ring k1_check_ring
  b_check_ring := (fun_mk (st := s_check_ring) l1_check_ring c1_check_ring k1_check_ring).binds (ps := ["w"]) fun _ _ _ _ _ _ us hl => match us, hl with | [_], _ => rfl
  m_check_ring := PySem.W.mg_of X G a1_check_ring
  a_turned_ring := f_turned_ring
  d_turned_ring := _
  F_turned_ring := fun_mk (st := s_turned_ring) l1_turned_ring c1_turned_ring k1_turned_ring
  b_turned_ring := (fun_mk (st := s_turned_ring) l1_turned_ring c1_turned_ring k1_turned_ring).binds (ps := ["w", "d"]) fun _ _ _ _ _ _ us hl => match us, hl with | [_, _], _ => rfl
  m_turned_ring := PySem.W.mg_of X G a1_turned_ring
  a_law_state := f_law_state
  d_law_state := _
  F_law_state := fun_mk (st := s_law_state) l1_law_state c1_law_state k1_law_state
  b_law_state := (fun_mk (st := s_law_state) l1_law_state c1_law_state k1_law_state).binds (ps := ["script"]) fun _ _ _ _ _ _ us hl => match us, hl with | [_], _ => rfl
  m_law_state := PySem.W.mg_of X G a1_law_state
  a_law_odd := f_law_odd
  d_law_odd := _
  F_law_odd := fun_mk (st := s_law_odd) l1_law_odd c1_law_odd k1_law_odd
  b_law_odd := (fun_mk (st := s_law_odd) l1_law_odd c1_law_odd k1_law_odd).binds (ps := ["value"]) fun _ _ _ _ _ _ us hl => match us, hl with | [_], _ => rfl
  m_law_odd := PySem.W.mg_of X G a1_law_odd
  a_law_honest := f_law_honest
  d_law_honest := _
  F_law_honest := fun_mk (st := s_law_honest) l1_law_honest c1_law_honest k1_law_honest
  b_law_honest := (fun_mk (st := s_law_honest) l1_law_honest c1_law_honest k1_law_honest).binds (ps := ["value"]) fun _ _ _ _ _ _ us hl => match us, hl with | [_], _ => rfl
  m_law_honest := PySem.W.mg_of X G a1_law_honest
  a_law_take := f_law_take
  d_law_take := _
  F_law_take := fun_mk (st := s_law_take) l1_law_take c1_law_take k1_law_take
  b_law_take := (fun_mk (st := s_law_take) l1_law_take c1_law_take k1_law_take).binds (ps := ["state", "m"]) fun _ _ _ _ _ _ us hl => match us, hl with | [_, _], _ => rfl
  m_law_take := PySem.W.mg_of X G a1_law_take
  a_law_ring := f_law_ring
  d_law_ring := _
  F_law_ring := fun_mk (st := s_law_ring) l1_law_ring c1_law_ring k1_law_ring
  b_law_ring := (fun_mk (st := s_law_ring) l1_law_ring c1_law_ring k1_law_ring).binds (ps := ["state", "most"]) fun _ _ _ _ _ _ us hl => match us, hl with | [_, _], _ => rfl
  m_law_ring := PySem.W.mg_of X G a1_law_ring
  a_law_turned := f_law_turned
  d_law_turned := _
  F_law_turned := fun_mk (st := s_law_turned) l1_law_turned c1_law_turned k1_law_turned
  b_law_turned := (fun_mk (st := s_law_turned) l1_law_turned c1_law_turned k1_law_turned).binds (ps := ["w", "d"]) fun _ _ _ _ _ _ us hl => match us, hl with | [_, _], _ => rfl
  m_law_turned := PySem.W.mg_of X G a1_law_turned
  a_gone_round := f_gone_round
  d_gone_round := _
  F_gone_round := fun_mk (st := s_gone_round) l1_gone_round c1_gone_round k1_gone_round
  b_gone_round := (fun_mk (st := s_gone_round) l1_gone_round c1_gone_round k1_gone_round).binds (ps := ["w", "l", "held"]) fun _ _ _ _ _ _ us hl => match us, hl with | [_, _, _], _ => rfl
  m_gone_round := PySem.W.mg_of X G a1_gone_round
  a_is_room := f_is_room
  d_is_room := _
  F_is_room := fun_mk (st := s_is_room) l1_is_room c1_is_room k1_is_room
  b_is_room := (fun_mk (st := s_is_room) l1_is_room c1_is_room k1_is_room).binds (ps := ["value"]) fun _ _ _ _ _ _ us hl => match us, hl with | [_], _ => rfl
  m_is_room := PySem.W.mg_of X G a1_is_room
  a_check_carrier := f_check_carrier
  d_check_carrier := _
  F_check_carrier := fun_mk (st := s_check_carrier) l1_check_carrier c1_check_carrier k1_check_carrier
  b_check_carrier := (fun_mk (st := s_check_carrier) l1_check_carrier c1_check_carrier k1_check_carrier).binds (ps := ["w", "l"]) fun _ _ _ _ _ _ us hl => match us, hl with | [_, _], _ => rfl
  m_check_carrier := PySem.W.mg_of X G a1_check_carrier
  a_carried_ring := f_carried_ring
  d_carried_ring := _
  F_carried_ring := fun_mk (st := s_carried_ring) l1_carried_ring c1_carried_ring k1_carried_ring
  b_carried_ring := (fun_mk (st := s_carried_ring) l1_carried_ring c1_carried_ring k1_carried_ring).binds (ps := ["w", "l"]) fun _ _ _ _ _ _ us hl => match us, hl with | [_, _], _ => rfl
  m_carried_ring := PySem.W.mg_of X G a1_carried_ring
  a_carried_ring_back := f_carried_ring_back
  d_carried_ring_back := _
  F_carried_ring_back := fun_mk (st := s_carried_ring_back) l1_carried_ring_back c1_carried_ring_back k1_carried_ring_back
  b_carried_ring_back := (fun_mk (st := s_carried_ring_back) l1_carried_ring_back c1_carried_ring_back k1_carried_ring_back).binds (ps := ["w", "l"]) fun _ _ _ _ _ _ us hl => match us, hl with | [_, _], _ => rfl
  m_carried_ring_back := PySem.W.mg_of X G a1_carried_ring_back
  a_is_high := f_is_high
  d_is_high := _
  F_is_high := fun_mk (st := s_is_high) l1_is_high c1_is_high k1_is_high
  b_is_high := (fun_mk (st := s_is_high) l1_is_high c1_is_high k1_is_high).binds (ps := ["w"]) fun _ _ _ _ _ _ us hl => match us, hl with | [_], _ => rfl
  m_is_high := PySem.W.mg_of X G a1_is_high
  a_least_turn := f_least_turn
  d_least_turn := _
  F_least_turn := fun_mk (st := s_least_turn) l1_least_turn c1_least_turn k1_least_turn
  b_least_turn := (fun_mk (st := s_least_turn) l1_least_turn c1_least_turn k1_least_turn).binds (ps := ["w"]) fun _ _ _ _ _ _ us hl => match us, hl with | [_], _ => rfl
  m_least_turn := PySem.W.mg_of X G a1_least_turn
  a_high_strings := f_high_strings
  d_high_strings := _
  F_high_strings := fun_mk (st := s_high_strings) l1_high_strings c1_high_strings k1_high_strings
  b_high_strings := (fun_mk (st := s_high_strings) l1_high_strings c1_high_strings k1_high_strings).binds (ps := ["w", "d"]) fun _ _ _ _ _ _ us hl => match us, hl with | [_, _], _ => rfl
  m_high_strings := PySem.W.mg_of X G a1_high_strings
  a_shape_of_ring := f_shape_of_ring
  d_shape_of_ring := _
  F_shape_of_ring := fun_mk (st := s_shape_of_ring) l1_shape_of_ring c1_shape_of_ring k1_shape_of_ring
  b_shape_of_ring := (fun_mk (st := s_shape_of_ring) l1_shape_of_ring c1_shape_of_ring k1_shape_of_ring).binds (ps := ["w"]) fun _ _ _ _ _ _ us hl => match us, hl with | [_], _ => rfl
  m_shape_of_ring := PySem.W.mg_of X G a1_shape_of_ring
  a_angles := f_angles
  d_angles := _
  F_angles := fun_mk (st := s_angles) l1_angles c1_angles k1_angles
  b_angles := (fun_mk (st := s_angles) l1_angles c1_angles k1_angles).binds (ps := ["w"]) fun _ _ _ _ _ _ us hl => match us, hl with | [_], _ => rfl
  m_angles := PySem.W.mg_of X G a1_angles
  a_turnings := f_turnings
  d_turnings := _
  F_turnings := fun_mk (st := s_turnings) l1_turnings c1_turnings k1_turnings
  b_turnings := (fun_mk (st := s_turnings) l1_turnings c1_turnings k1_turnings).binds (ps := ["gaps"]) fun _ _ _ _ _ _ us hl => match us, hl with | [_], _ => rfl
  m_turnings := PySem.W.mg_of X G a1_turnings
  a_gaps_by_length := f_gaps_by_length
  d_gaps_by_length := _
  F_gaps_by_length := fun_mk (st := s_gaps_by_length) l1_gaps_by_length c1_gaps_by_length k1_gaps_by_length
  b_gaps_by_length := (fun_mk (st := s_gaps_by_length) l1_gaps_by_length c1_gaps_by_length k1_gaps_by_length).binds (ps := ["w"]) fun _ _ _ _ _ _ us hl => match us, hl with | [_], _ => rfl
  m_gaps_by_length := PySem.W.mg_of X G a1_gaps_by_length
  a_road_name := f_road_name
  d_road_name := _
  F_road_name := fun_mk (st := s_road_name) l1_road_name c1_road_name k1_road_name
  b_road_name := (fun_mk (st := s_road_name) l1_road_name c1_road_name k1_road_name).binds (ps := ["w"]) fun _ _ _ _ _ _ us hl => match us, hl with | [_], _ => rfl
  m_road_name := PySem.W.mg_of X G a1_road_name
  a_table_of := f_table_of
  d_table_of := _
  F_table_of := fun_mk (st := s_table_of) l1_table_of c1_table_of k1_table_of
  b_table_of := (fun_mk (st := s_table_of) l1_table_of c1_table_of k1_table_of).binds (ps := ["shape", "size", "gaps"]) fun _ _ _ _ _ _ us hl => match us, hl with | [_, _, _], _ => rfl
  m_table_of := PySem.W.mg_of X G a1_table_of
  a_road_table := f_road_table
  d_road_table := _
  F_road_table := fun_mk (st := s_road_table) l1_road_table c1_road_table k1_road_table
  b_road_table := (fun_mk (st := s_road_table) l1_road_table c1_road_table k1_road_table).binds (ps := ["w"]) fun _ _ _ _ _ _ us hl => match us, hl with | [_], _ => rfl
  m_road_table := PySem.W.mg_of X G a1_road_table
  a_determinant := f_determinant
  d_determinant := _
  F_determinant := fun_mk (st := s_determinant) l1_determinant c1_determinant k1_determinant
  b_determinant := (fun_mk (st := s_determinant) l1_determinant c1_determinant k1_determinant).binds (ps := ["rows"]) fun _ _ _ _ _ _ us hl => match us, hl with | [_], _ => rfl
  m_determinant := PySem.W.mg_of X G a1_determinant
  a_road_size := f_road_size
  d_road_size := _
  F_road_size := fun_mk (st := s_road_size) l1_road_size c1_road_size k1_road_size
  b_road_size := (fun_mk (st := s_road_size) l1_road_size c1_road_size k1_road_size).binds (ps := ["w"]) fun _ _ _ _ _ _ us hl => match us, hl with | [_], _ => rfl
  m_road_size := PySem.W.mg_of X G a1_road_size
  a_divisors := f_divisors
  d_divisors := _
  F_divisors := fun_mk (st := s_divisors) l1_divisors c1_divisors k1_divisors
  b_divisors := (fun_mk (st := s_divisors) l1_divisors c1_divisors k1_divisors).binds (ps := ["rows", "width"]) fun _ _ _ _ _ _ us hl => match us, hl with | [_, _], _ => rfl
  m_divisors := PySem.W.mg_of X G a1_divisors
  a_road_divisors := f_road_divisors
  d_road_divisors := _
  F_road_divisors := fun_mk (st := s_road_divisors) l1_road_divisors c1_road_divisors k1_road_divisors
  b_road_divisors := (fun_mk (st := s_road_divisors) l1_road_divisors c1_road_divisors k1_road_divisors).binds (ps := ["w"]) fun _ _ _ _ _ _ us hl => match us, hl with | [_], _ => rfl
  m_road_divisors := PySem.W.mg_of X G a1_road_divisors
  a_slid := f_slid
  d_slid := _
  F_slid := fun_mk (st := s_slid) l1_slid c1_slid k1_slid
  b_slid := (fun_mk (st := s_slid) l1_slid c1_slid k1_slid).binds (ps := ["rounds", "size", "e"]) fun _ _ _ _ _ _ us hl => match us, hl with | [_, _, _], _ => rfl
  m_slid := PySem.W.mg_of X G a1_slid
  a_difference := f_difference
  d_difference := _
  F_difference := fun_mk (st := s_difference) l1_difference c1_difference k1_difference
  b_difference := (fun_mk (st := s_difference) l1_difference c1_difference k1_difference).binds (ps := ["v", "w"]) fun _ _ _ _ _ _ us hl => match us, hl with | [_, _], _ => rfl
  m_difference := PySem.W.mg_of X G a1_difference
  a_told_runs := f_told_runs
  d_told_runs := _
  F_told_runs := fun_mk (st := s_told_runs) l1_told_runs c1_told_runs k1_told_runs
  b_told_runs := (fun_mk (st := s_told_runs) l1_told_runs c1_told_runs k1_told_runs).binds (ps := ["pairs"]) fun _ _ _ _ _ _ us hl => match us, hl with | [_], _ => rfl
  m_told_runs := PySem.W.mg_of X G a1_told_runs
  a_joint_road := f_joint_road
  d_joint_road := _
  F_joint_road := fun_mk (st := s_joint_road) l1_joint_road c1_joint_road k1_joint_road
  b_joint_road := (fun_mk (st := s_joint_road) l1_joint_road c1_joint_road k1_joint_road).binds (ps := ["v", "w"]) fun _ _ _ _ _ _ us hl => match us, hl with | [_, _], _ => rfl
  m_joint_road := PySem.W.mg_of X G a1_joint_road
  a_order_modulo := f_order_modulo
  d_order_modulo := _
  F_order_modulo := fun_mk (st := s_order_modulo) l1_order_modulo c1_order_modulo k1_order_modulo
  b_order_modulo := (fun_mk (st := s_order_modulo) l1_order_modulo c1_order_modulo k1_order_modulo).binds (ps := ["rows", "width", "h"]) fun _ _ _ _ _ _ us hl => match us, hl with | [_, _, _], _ => rfl
  m_order_modulo := PySem.W.mg_of X G a1_order_modulo
  a_run_row := f_run_row
  d_run_row := _
  F_run_row := fun_mk (st := s_run_row) l1_run_row c1_run_row k1_run_row
  b_run_row := (fun_mk (st := s_run_row) l1_run_row c1_run_row k1_run_row).binds (ps := ["w", "l"]) fun _ _ _ _ _ _ us hl => match us, hl with | [_, _], _ => rfl
  m_run_row := PySem.W.mg_of X G a1_run_row
  a_period := f_period
  d_period := _
  F_period := fun_mk (st := s_period) l1_period c1_period k1_period
  b_period := (fun_mk (st := s_period) l1_period c1_period k1_period).binds (ps := ["w", "l"]) fun _ _ _ _ _ _ us hl => match us, hl with | [_, _], _ => rfl
  m_period := PySem.W.mg_of X G a1_period
  a_solve := f_solve
  d_solve := _
  F_solve := fun_mk (st := s_solve) l1_solve c1_solve k1_solve
  b_solve := (fun_mk (st := s_solve) l1_solve c1_solve k1_solve).binds (ps := ["rows", "width", "b"]) fun _ _ _ _ _ _ us hl => match us, hl with | [_, _, _], _ => rfl
  m_solve := PySem.W.mg_of X G a1_solve
  a_one_carrier := f_one_carrier
  d_one_carrier := _
  F_one_carrier := fun_mk (st := s_one_carrier) l1_one_carrier c1_one_carrier k1_one_carrier
  b_one_carrier := (fun_mk (st := s_one_carrier) l1_one_carrier c1_one_carrier k1_one_carrier).binds (ps := ["v", "w", "l"]) fun _ _ _ _ _ _ us hl => match us, hl with | [_, _, _], _ => rfl
  m_one_carrier := PySem.W.mg_of X G a1_one_carrier
  a_ring_of := f_ring_of
  d_ring_of := _
  F_ring_of := fun_mk (st := s_ring_of) l1_ring_of c1_ring_of k1_ring_of
  b_ring_of := (fun_mk (st := s_ring_of) l1_ring_of c1_ring_of k1_ring_of).binds (ps := ["rounds", "size"]) fun _ _ _ _ _ _ us hl => match us, hl with | [_, _], _ => rfl
  m_ring_of := PySem.W.mg_of X G a1_ring_of
  a_far_around := f_far_around
  d_far_around := _
  F_far_around := fun_mk (st := s_far_around) l1_far_around c1_far_around k1_far_around
  b_far_around := (fun_mk (st := s_far_around) l1_far_around c1_far_around k1_far_around).binds (ps := ["w", "l", "t"]) fun _ _ _ _ _ _ us hl => match us, hl with | [_, _, _], _ => rfl
  m_far_around := PySem.W.mg_of X G a1_far_around
  a_law_call := f_law_call
  d_law_call := _
  F_law_call := fun_mk (st := s_law_call) l1_law_call c1_law_call k1_law_call
  b_law_call := (fun_mk (st := s_law_call) l1_law_call c1_law_call k1_law_call).binds (ps := ["which", "value", "w", "l"]) fun _ _ _ _ _ _ us hl => match us, hl with | [_, _, _, _], _ => rfl
  m_law_call := PySem.W.mg_of X G a1_law_call
  a_law_refused := f_law_refused
  d_law_refused := _
  F_law_refused := fun_mk (st := s_law_refused) l1_law_refused c1_law_refused k1_law_refused
  b_law_refused := (fun_mk (st := s_law_refused) l1_law_refused c1_law_refused k1_law_refused).binds (ps := ["which", "value", "w", "l"]) fun _ _ _ _ _ _ us hl => match us, hl with | [_, _, _, _], _ => rfl
  m_law_refused := PySem.W.mg_of X G a1_law_refused
  a_law := f_law
  d_law := _
  F_law := fun_mk (st := s_law) l1_law c1_law k1_law
  b_law := (fun_mk (st := s_law) l1_law c1_law k1_law).binds (ps := ["script"]) fun _ _ _ _ _ _ us hl => match us, hl with | [_], _ => rfl
  m_law := PySem.W.mg_of X G a1_law
  z_abs := PySem.W.mg_none_of X G z1_abs
  z_all := PySem.W.mg_none_of X G z1_all
  z_bool := PySem.W.mg_none_of X G z1_bool
  z_int := PySem.W.mg_none_of X G z1_int
  z_isinstance := PySem.W.mg_none_of X G z1_isinstance
  z_len := PySem.W.mg_none_of X G z1_len
  z_list := PySem.W.mg_none_of X G z1_list
  z_min := PySem.W.mg_none_of X G z1_min
  z_range := PySem.W.mg_none_of X G z1_range
  z_sum := PySem.W.mg_none_of X G z1_sum
  z_tuple := PySem.W.mg_none_of X G z1_tuple
  t_MOST_CARRIER := _
  c_MOST_CARRIER := PySem.W.mg_of X G c2_MOST_CARRIER
  t_MOST_LENGTH := _
  c_MOST_LENGTH := PySem.W.mg_of X G c2_MOST_LENGTH
  t_MOST_RUNS := _
  c_MOST_RUNS := PySem.W.mg_of X G c2_MOST_RUNS
  a_Malformed := C_Malformed
  m_Malformed := PySem.W.mg_of X G e1_Malformed
  x_Malformed := e2_Malformed
  k_Malformed := e3_Malformed
  xb_Malformed := e4_Malformed
  xt_Malformed := e5_Malformed
  sub_Malformed := fun n b cls hs hm => sub_ok e6_Malformed e5_Malformed e4_Malformed e7_Malformed (PySem.W.mg_of X G e1_Malformed) hs hm
end DL
namespace DL
open PySem L2
/-! ### the draw, alike for every law -/
theorem state_loop (D : DV) : ∀ (ms : List Int) (s t : Int) (x : Option DV), ∃ s' t' x', forGo ckT (.nm 3) L0_law_state (dit (ms.map PV.int)) [some D, some (.p (.int s)), some (.p (.int t)), x] [] = .nx [some D, some (.p (.int s')), some (.p (.int t')), x'] []
  | [], s, t, x => ⟨s, t, x, for_nil⟩
  | m :: ms, s, t, x => by
    obtain ⟨s', t', x', e⟩ := state_loop D ms (s * 1000003 + (if m < 0 then -m else m)) ((t * 48271 + m) % 2147483647) (some (.p (.int m)))
    refine ⟨s', t', x', ?_⟩
    have m1 : ∀ (i : Int) (S : AH), mulO1 (.p (.int i)) (.p (.int 48271)) S = some (.p (.int (i * 48271)), S) := fun i S => mulO1_int (mulOk_r (by decide))
    have m2 : ∀ (i : Int) (S : AH), mulO1 (.p (.int i)) (.p (.int 1000003)) S = some (.p (.int (i * 1000003)), S) := fun i S => mulO1_int (mulOk_r (by decide))
    have mb : ∀ (i : Int) (S : AH), modO (.p (.int i)) (.p (.int 2147483647)) S = some (.p (.int (i % 2147483647)), S) := fun i S => modO_int (by decide)
    rw [List.map_cons, dit_cons, for_nm, ← e]
    simp [L0_law_state, m1, m2, mb]
theorem state_ok (ns : List Int) : ∃ a b : Int, d_law_state [.p (.fro (ns.map PV.int))] [] = .ok (.c 0) [.lst [.int a, .int b]] := by
  obtain ⟨s', t', x', e⟩ := state_loop (.p (.fro (ns.map PV.int))) (cutL ns none (some 63)) 0 1 none
  refine ⟨s', t', ?_⟩
  rw [← cutL_map] at e
  simp [d_law_state, b_law_state_, e]
  exact gc_cell (by simp) (Nat.zero_le _) rfl
def tkV (a b m : Int) : Int := if 0 < a then a % m else (b * 48271 + 11) % 2147483647 / 7 % m
def tkA (a m : Int) : Int := if 0 < a then a / m else a
def tkB (a b : Int) : Int := if 0 < a then b else (b * 48271 + 11) % 2147483647
theorem tkV_bd {a b m : Int} (h : 0 < m) : 0 ≤ tkV a b m ∧ tkV a b m < m := by
  unfold tkV
  split
  · exact ⟨Int.emod_nonneg _ (by omega), Int.emod_lt_of_pos _ h⟩
  · exact ⟨Int.emod_nonneg _ (by omega), Int.emod_lt_of_pos _ h⟩
theorem ixO_c0 {i : Int} {xs : List PV} {x : PV} {R : AH} (e : atI xs i = some x) : ixO (.c 0) (.p (.int i)) (.lst xs :: R) = some (.p x, .lst xs :: R) := ixO_c rfl e
theorem take_ok0 (a b m : Int) (R : AH) (h0 : 0 < m) (hm : divOk m) : d_law_take [.c 0, .p (.int m)] (.lst [.int a, .int b] :: R) = .ok (.p (.int (tkV a b m))) (.lst [.int (tkA a m), .int (tkB a b)] :: R) := by
  have e0 : ∀ (x y : PV) (R : AH), ixO (.c 0) (.p (.int 0)) (.lst [x, y] :: R) = some (.p x, .lst [x, y] :: R) := fun x y R => ixO_c0 rfl
  have e1 : ∀ (x y : PV) (R : AH), ixO (.c 0) (.p (.int 1)) (.lst [x, y] :: R) = some (.p y, .lst [x, y] :: R) := fun x y R => ixO_c0 rfl
  have s0 : ∀ (x y z : PV) (R : AH), setIx (.c 0) (.p (.int 0)) (.p z) (.lst [x, y] :: R) = some (.lst [z, y] :: R) := fun x y z R => rfl
  have s1 : ∀ (x y z : PV) (R : AH), setIx (.c 0) (.p (.int 1)) (.p z) (.lst [x, y] :: R) = some (.lst [x, z] :: R) := fun x y z R => rfl
  have j0 : ∀ (δ : Sig) (x y z : PV) (R : AH), jSub3 (.c 0) (.p z) (.p (.int 0)) δ (.lst [x, y] :: R) = .nx δ (.lst [z, y] :: R) := fun δ x y z R => ev_jSub3 (s0 x y z R)
  have j1 : ∀ (δ : Sig) (x y z : PV) (R : AH), jSub3 (.c 0) (.p z) (.p (.int 1)) δ (.lst [x, y] :: R) = .nx δ (.lst [x, z] :: R) := fun δ x y z R => ev_jSub3 (s1 x y z R)
  have m1 : ∀ (i : Int) (S : AH), mulO1 (.p (.int i)) (.p (.int 48271)) S = some (.p (.int (i * 48271)), S) := fun i S => mulO1_int (mulOk_r (by decide))
  have d7 : ∀ (i : Int) (S : AH), divO (.p (.int i)) (.p (.int 7)) S = some (.p (.int (i / 7)), S) := fun i S => divO_int (divOk_of (by decide) (by decide))
  have mb : ∀ (i : Int) (S : AH), modO (.p (.int i)) (.p (.int 2147483647)) S = some (.p (.int (i % 2147483647)), S) := fun i S => modO_int (by decide)
  have mm : ∀ (i : Int) (S : AH), modO (.p (.int i)) (.p (.int m)) S = some (.p (.int (i % m)), S) := fun i S => modO_int h0
  have dm : ∀ (i : Int) (S : AH), divO (.p (.int i)) (.p (.int m)) S = some (.p (.int (i / m)), S) := fun i S => divO_int hm
  by_cases h : 0 < a
  · simp [d_law_take, b_law_take_, e0, e1, j0, j1, m1, d7, mb, mm, dm, h, tkV, tkA, tkB]
  · simp [d_law_take, b_law_take_, e0, e1, j0, j1, m1, d7, mb, mm, dm, h, tkV, tkA, tkB]
/-- a cell of two numbers: the draw's state -/
def St2 (c : Cell) : Prop := ∃ a b : Int, c = .lst [.int a, .int b]
/-- a take: some number below the bound -/
theorem take_ok {c : Cell} (h : St2 c) {m : Int} (R : AH) (h0 : 0 < m) (h1 : m < 2 ^ 64) : ∃ v c', St2 c' ∧ (0 ≤ v ∧ v < m) ∧ d_law_take [.c 0, .p (.int m)] (c :: R) = .ok (.p (.int v)) (c' :: R) := by
  obtain ⟨a, b, rfl⟩ := h
  exact ⟨_, _, ⟨_, _, rfl⟩, tkV_bd h0, take_ok0 a b m R h0 (divOk_of h0 h1)⟩
end DL
namespace DL
open PySem L2
/-! ### rings, plain -/
def Bits (w : List Int) : Prop := ∀ b ∈ w, b = 0 ∨ b = 1
theorem Bits.tl {b : Int} {w : List Int} (h : Bits (b :: w)) : Bits w := fun x hx => h x (List.mem_cons_of_mem _ hx)
theorem Bits.hd {b : Int} {w : List Int} (h : Bits (b :: w)) : b = 0 ∨ b = 1 := h b List.mem_cons_self
structure Ring (w : List Int) : Prop where
  b : Bits w
  p : 0 < w.length
  m : w.length ≤ 40
  s : 2 * w.sum < w.length
theorem isint_ok (i : Int) (S : AH) : d_is_integer [.p (.int i)] S = .ok (.p (.bl true)) S := by
  simp [d_is_integer, b_is_integer_]
theorem room_ok {l : Int} (h0 : 1 ≤ l) (h1 : l ≤ 1000) (S : AH) : d_is_room [.p (.int l)] S = .ok (.p (.bl true)) S := by
  simp [d_is_room, b_is_room_, isint_ok, h0, h1]
theorem ring_ok {w : List Int} (h : Ring w) (S : AH) : d_is_ring [.p (tupI w)] S = .ok (.p (.bl true)) S := by
  have hp := h.p
  have hm := h.m
  have hs := h.s
  have h1 : ¬ (w.length : Int) < 1 := by omega
  have h2 : ¬ (40 : Int) < w.length := by omega
  have k : (∀ (m : Int) (S : AH), mulO1 (.p (.int 2)) (.p (.int m)) S = some (.p (.int (2 * m)), S)) := fun m S => mulO1_int (mulOk_l (by decide))
  have hz : (dit (w.map PV.int)).length ≤ 16777216 := by rw [dit_len, List.length_map]; omega
  simp [d_is_ring, b_is_ring_, h1, h2, ev_kLc hz]
  rw [lc_map trivial (fun _ => .bl true) (fun x hx => by
    obtain ⟨i, hi, rfl⟩ := List.mem_map.mp hx
    refine ⟨_, rfl, ?_⟩
    rcases h.b i hi with rfl | rfl <;> simp [isint_ok, wipeD])]
  have al : ∀ S : AH, allO [.p (.lst ((w.map PV.int).map (fun _ => PV.bl true)))] S = some (.p (.bl true), S) := fun S => by
    have e : (w.map PV.int).map (fun _ => PV.bl true) = (w.map fun _ => true).map PV.bl := by simp
    rw [e, allO_lst]
    simp
  simp [-List.map_map, al, sumO_tup, k, hs, h1, h2]
theorem chk_ok {w : List Int} (h : Ring w) (S : AH) : d_check_ring [.p (tupI w)] S = .ok (.p .non) S := by
  simp [d_check_ring, b_check_ring_, ring_ok h]
theorem chkc_ok {w : List Int} (h : Ring w) {l : Int} (h0 : 1 ≤ l) (h1 : l ≤ 1000) (S : AH) : d_check_carrier [.p (tupI w), .p (.int l)] S = .ok (.p .non) S := by
  simp [d_check_carrier, b_check_carrier_, chk_ok h, room_ok h0 h1]
/-- turned by a way -/
def trn (d : Int) (w : List Int) : List Int := w.drop (d % w.length).toNat ++ w.take (d % w.length).toNat
theorem turned_ok {w : List Int} (h : Ring w) (d : Int) (S : AH) : d_turned_ring [.p (tupI w), .p (.int d)] S = .ok (.p (tupI (trn d w))) S := by
  have hp := h.p
  have hm := h.m
  have mm : ∀ (i : Int) (S : AH), modO (.p (.int i)) (.p (.int w.length)) S = some (.p (.int (i % w.length)), S) := fun i S => modO_int (by omega)
  have b0 := Int.emod_nonneg d (show (w.length : Int) ≠ 0 by omega)
  have b1 := Int.emod_lt_of_pos d (show (0 : Int) < w.length by omega)
  obtain ⟨k, hk⟩ : ∃ k : Nat, d % w.length = (k : Int) := ⟨(d % w.length).toNat, by omega⟩
  have e1 : cutL (w.map PV.int) (some (k : Int)) none = (w.drop k).map PV.int := by rw [cutL_map, cut_from]
  have e2 : cutL (w.map PV.int) none (some (k : Int)) = (w.take k).map PV.int := by rw [cutL_map, cut_to]
  have ad : ∀ S : AH, addO (.p (.tup ((w.drop k).map PV.int))) (.p (.tup ((w.take k).map PV.int))) S = some (.p (tupI (trn d w)), S) := fun S => by
    rw [addO_tup (by simp; omega)]
    unfold trn tupI
    rw [hk, List.map_append]
    rfl
  simp only [tupI] at ad
  have c := chk_ok h
  simp only [tupI] at c ⊢
  simp [d_turned_ring, b_turned_ring_, c, mm, hk, e1, e2, ad, -List.map_drop, -List.map_take]
theorem trn_len {d : Int} {w : List Int} (hp : 0 < w.length) : (trn d w).length = w.length := by
  unfold trn; simp; have := Int.emod_lt_of_pos d (show (0 : Int) < w.length by omega); omega
theorem trn_get {w : List Int} (hp : 0 < w.length) (d : Int) : ∀ k < w.length, w[(((k : Int) + d) % w.length).toNat]? = (trn d w)[k]? := fun k hk => by
  have b0 := Int.emod_nonneg d (show (w.length : Int) ≠ 0 by omega)
  have b1 := Int.emod_lt_of_pos d (show (0 : Int) < w.length by omega)
  have q : ((k : Int) + d) % w.length = if (k : Int) + d % w.length < w.length then (k : Int) + d % w.length else (k : Int) + d % w.length - w.length := by
    rw [Int.add_emod, Int.emod_eq_of_lt (a := (k : Int)) (by omega) (by omega)]
    split
    · exact Int.emod_eq_of_lt (by omega) (by omega)
    · rw [← Int.sub_emod_right]; exact Int.emod_eq_of_lt (by omega) (by omega)
  unfold trn
  rw [q, List.getElem?_append, List.length_drop]
  split
  · rw [if_pos (by omega), List.getElem?_drop]
    congr 1; omega
  · rw [if_neg (by omega), List.getElem?_take_of_lt (by omega)]
    congr 1; omega
theorem map_getD {α : Type} (f : Int → α) (v : List Int) : (List.range v.length).map (fun k => f (v.getD k 0)) = v.map f := by
  refine List.ext_getElem (by simp) fun i h1 h2 => ?_
  simp at h1 h2
  simp [h2]
theorem lturned_ok {w : List Int} (hp : 0 < w.length) (hm : w.length ≤ 1000) (d : Int) (S : AH) : d_law_turned [.p (tupI w), .p (.int d)] S = .ok (.p (tupI (trn d w))) S := by
  have mm : ∀ (i : Int) (S : AH), modO (.p (.int i)) (.p (.int w.length)) S = some (.p (.int (i % w.length)), S) := fun i S => modO_int (by omega)
  have hz : (rangeI 0 w.length).length ≤ 16777216 := by rw [rangeI_len]; omega
  have tl := trn_len (d := d) hp
  have ia : ∀ (k : Nat) (hk : k < w.length) (S : AH), ixO (.p (.tup (w.map PV.int))) (.p (.int (((k : Int) + d) % w.length))) S = some (.p (.int ((trn d w).getD k 0)), S) := fun k hk S => by
    have hk' : k < (trn d w).length := by omega
    have e := trn_get hp d k hk
    rw [List.getElem?_eq_getElem hk'] at e
    refine ixO_tup (atI_map _ (atI_at (Int.emod_nonneg _ (by omega)) ?_))
    rw [e, List.getD_eq_getElem?_getD, List.getElem?_eq_getElem hk']; rfl
  simp [d_law_turned, b_law_turned_, rg_len w.length (by omega), ev_kLc hz]
  rw [lc_rmap (fun k => .int ((trn d w).getD k 0)) (fun k hk => by simp [wipeD, mm, ia k hk])]
  rw [← tl, map_getD PV.int]
  simp
end DL
namespace DL
open PySem L2
/-- a letter that is read -/
theorem let_get {w : List Int} {k : Nat} (h : k < w.length) (c : Cell) (S : AH) : ixO (.c 1) (.p (.int (k : Int))) [c, .lst (w.map PV.int)] = some (.p (.int (w.getD k 0)), [c, .lst (w.map PV.int)]) := by
  refine ixO_c rfl (atI_map _ (atI_nat ?_))
  rw [List.getD_eq_getElem?_getD, List.getElem?_eq_getElem h]; rfl
theorem bits_zero : ∀ {w : List Int}, Bits w → w.sum < w.length → ∃ k, k < w.length ∧ w.getD k 0 = 0
  | [], _, h => by simp at h
  | b :: w, hw, h => by
    rcases hw.hd with rfl | rfl
    · exact ⟨0, by simp, rfl⟩
    · obtain ⟨k, h1, h2⟩ := bits_zero hw.tl (by simp only [List.sum_cons, List.length_cons] at h; omega)
      exact ⟨k + 1, by simpa using h1, by simpa using h2⟩
theorem set_sum : ∀ {w : List Int} {k : Nat}, k < w.length → w.getD k 0 = 0 → (w.set k 1).sum = w.sum + 1
  | [], k, h, _ => by simp at h
  | b :: w, 0, _, e => by
    have : b = 0 := e
    subst this
    simp [Int.add_comm]
  | b :: w, k + 1, h, e => by
    have := set_sum (w := w) (k := k) (by simpa using h) (by simpa using e)
    simp only [List.set_cons_succ, List.sum_cons, this]
    omega
theorem set_bits {w : List Int} (h : Bits w) (k : Nat) : Bits (w.set k 1) := fun b hb => by
  rcases List.mem_or_eq_of_mem_set hb with q | q
  · exact h b q
  · exact .inr q
/-- the state between two turns of the draw -/
def Turn (n m : Nat) (xs : List DV) (δ : Sig) (S : AH) : Prop := ∃ (j : Nat) (lo : Int) (w : List Int) (last : Int) (c : Cell) (x4 x6 x7 x8 x9 : Option DV),
  xs = rangeI lo j ∧ δ = [some (.c 0), some (.p (.int 40)), some (.p (.int n)), some (.c 1), x4, some (.p (.int last)), x6, x7, x8, x9] ∧ S = [c, .lst (w.map PV.int)] ∧ St2 c ∧ Bits w ∧ w.length = n ∧ w.sum + j = m ∧ -1 ≤ last ∧ last < n
theorem turn_step {n m : Nat} (hn : n ≤ 40) (hm : 2 * m < n) (x : DV) (xs : List DV) (δ : Sig) (S : AH) (h : Turn n m (x :: xs) δ S) : ∃ δ1, (Pat.nm 6).set x δ = some δ1 ∧ ∃ δ2 S2, L0_law_ring δ1 S = .nx δ2 S2 ∧ Turn n m xs δ2 S2 := by
  obtain ⟨j, lo, w, last, c, x4, x6, x7, x8, x9, e1, rfl, rfl, hc, hw, hl, hs, h1, h2⟩ := h
  cases j with
  | zero => rw [range0] at e1; cases e1
  | succ j =>
  rw [range_succ] at e1
  cases e1
  refine ⟨_, rfl, ?_⟩
  have np : 0 < n := by omega
  have rg : ∀ S : AH, kRng1 [.p (.int (n : Int))] S = .ok (rangeI 0 n, ckT) S := rg_len n (by omega)
  have hz : (rangeI 0 n).length ≤ 16777216 := by rw [rangeI_len]; omega
  have mm : ∀ (i : Int) (S : AH), modO (.p (.int i)) (.p (.int n)) S = some (.p (.int (i % n)), S) := fun i S => modO_int (by omega)
  have lg := fun (k : Nat) (hk : k < n) (c : Cell) => let_get (w := w) (k := k) (by omega) c []
  obtain ⟨k0, hk0, hk1⟩ := bits_zero hw (by omega)
  rw [hl] at hk0
  -- free
  obtain ⟨free, hf⟩ : ∃ free : List Nat, free = (List.range n).filter fun k => decide (w.getD k 0 = 0) := ⟨_, rfl⟩
  have fm : ∀ k, k ∈ free ↔ k < n ∧ w.getD k 0 = 0 := fun k => by rw [hf]; simp
  have f0 : 0 < free.length := List.length_pos_of_mem ((fm k0).mpr ⟨hk0, hk1⟩)
  have f1 : free.length ≤ 40 := by
    have := List.length_filter_le (fun k => decide (w.getD k 0 = 0)) (List.range n)
    rw [← hf, List.length_range] at this
    omega
  obtain ⟨v, c1, hc1, hv, tk⟩ := take_ok hc (m := free.length) [.lst (w.map PV.int)] (by omega) (by omega)
  obtain ⟨u, c2, hc2, hu, tk2⟩ := take_ok hc1 (m := 5) [.lst (w.map PV.int)] (by omega) (by omega)
  -- behind
  obtain ⟨beh, hb⟩ : ∃ beh : List Nat, beh = (List.range n).filter fun (k : Nat) => decide (w.getD ((last + 1 + (k : Int)) % n).toNat 0 = 0) := ⟨_, rfl⟩
  have b0 : 0 < beh.length := by
    refine List.length_pos_of_mem (a := (((k0 : Int) - last - 1) % n).toNat) ?_
    rw [hb, List.mem_filter]
    have q0 := Int.emod_nonneg ((k0 : Int) - last - 1) (show (n : Int) ≠ 0 by omega)
    have q1 := Int.emod_lt_of_pos ((k0 : Int) - last - 1) (show (0 : Int) < n by omega)
    refine ⟨List.mem_range.mpr (by omega), ?_⟩
    rw [Int.toNat_of_nonneg q0]
    have : (last + 1 + ((k0 : Int) - last - 1) % n) % n = k0 := by
      rw [Int.add_emod_emod, show last + 1 + ((k0 : Int) - last - 1) = k0 by omega]
      exact Int.emod_eq_of_lt (by omega) (by omega)
    rw [this]
    simpa using hk1
  -- the free place that is drawn
  obtain ⟨at1, ha⟩ : ∃ at1, free[v.toNat]? = some at1 := ⟨_, List.getElem?_eq_getElem (by omega)⟩
  have ha1 := (fm at1).mp (List.mem_of_getElem? ha)
  obtain ⟨b1, hb1⟩ : ∃ b1, beh[0]? = some b1 := ⟨_, List.getElem?_eq_getElem b0⟩
  have hb2 : w.getD ((last + 1 + (b1 : Int)) % n).toNat 0 = 0 := by
    have := List.mem_of_getElem? hb1
    rw [hb, List.mem_filter] at this
    simpa using this.2
  have ia : ∀ S : AH, ixO (.p (.lst (free.map fun (k : Nat) => PV.int (k : Int)))) (.p (.int v)) S = some (.p (.int at1), S) := fun S => ixO_lst (atI_map (fun (k : Nat) => PV.int (k : Int)) (atI_at hv.1 ha))
  have ib : ∀ S : AH, ixO (.p (.lst (beh.map fun (k : Nat) => PV.int ((last + 1 + (k : Int)) % n)))) (.p (.int 0)) S = some (.p (.int ((last + 1 + (b1 : Int)) % n)), S) := fun S => ixO_lst (atI_map (fun (k : Nat) => PV.int ((last + 1 + (k : Int)) % n)) (atI_at (by decide) hb1))
  have se : ∀ (δ : Sig) (k : Nat) (c : Cell), k < n → jSub3 (.c 1) (.p (.int 1)) (.p (.int k)) δ [c, .lst (w.map PV.int)] = .nx δ [c, .lst ((w.set k 1).map PV.int)] := fun δ k c hk => by
    refine ev_jSub3 ?_
    rw [setIx_c (n := 1) rfl (show k < (w.map PV.int).length by rw [List.length_map]; omega), List.map_set]
    rfl
  simp [L0_law_ring, rg, ev_kLc hz]
  rw [lc_rfilter (fun k => decide (w.getD k 0 = 0)) (fun k => .int (k : Int)) (fun k hk => by simp [wipeD, lg k hk]) (fun k hk _ => by simp [wipeD])]
  rw [← hf]
  simp [tk, ia, rg, ev_kLc hz]
  have lg2 : ∀ (k : Nat) (c : Cell), ixO (.c 1) (.p (.int ((last + 1 + (k : Int)) % n))) [c, .lst (w.map PV.int)] = some (.p (.int (w.getD ((last + 1 + (k : Int)) % n).toNat 0)), [c, .lst (w.map PV.int)]) := fun k c => by
    have q0 := Int.emod_nonneg (last + 1 + (k : Int)) (show (n : Int) ≠ 0 by omega)
    have q1 := Int.emod_lt_of_pos (last + 1 + (k : Int)) (show (0 : Int) < n by omega)
    have := lg ((last + 1 + (k : Int)) % n).toNat (by omega) c
    rwa [Int.toNat_of_nonneg q0] at this
  rw [lc_rfilter (fun k => decide (w.getD ((last + 1 + (k : Int)) % n).toNat 0 = 0)) (fun k => .int ((last + 1 + (k : Int)) % n)) (fun k hk => by simp [wipeD, mm, lg2]) (fun k hk _ => by simp [wipeD, mm])]
  rw [← hb]
  have fini : ∀ (a : Nat) (c : Cell) (x7 x8 x9 : Option DV), St2 c → a < n → w.getD a 0 = 0 → Turn n m (rangeI (lo + 1) j) [some (.c 0), some (.p (.int 40)), some (.p (.int n)), some (.c 1), x4, some (.p (.int a)), some (.p (.int lo)), x7, x8, x9] [c, .lst ((w.map PV.int).set a (.int 1))] := fun a c x7 x8 x9 hc ha hz =>
    ⟨j, lo + 1, w.set a 1, a, c, x4, some (.p (.int lo)), x7, x8, x9, rfl, rfl, by rw [List.map_set], hc, set_bits hw a, by rw [List.length_set, hl], by rw [set_sum (by omega) hz]; omega, by omega, by omega⟩
  have q0 := Int.emod_nonneg (last + 1 + (b1 : Int)) (show (n : Int) ≠ 0 by omega)
  have q1 := Int.emod_lt_of_pos (last + 1 + (b1 : Int)) (show (0 : Int) < n by omega)
  by_cases g1 : 0 ≤ last
  · by_cases g2 : u < 3
    · obtain ⟨b2, hb3⟩ : ∃ b2 : Nat, (last + 1 + (b1 : Int)) % n = (b2 : Int) := ⟨_, (Int.toNat_of_nonneg q0).symm⟩
      rw [hb3] at ib hb2
      simp [g1, tk2, g2, ib, fun δ c => se δ b2 c (show b2 < n by omega)]
      exact ⟨_, _, ⟨rfl, rfl⟩, fini b2 _ _ _ _ hc2 (by omega) hb2⟩
    · simp [g1, tk2, g2, fun δ c => se δ at1 c ha1.1]
      exact ⟨_, _, ⟨rfl, rfl⟩, fini at1 _ _ _ _ hc2 ha1.1 ha1.2⟩
  · simp [g1, fun δ c => se δ at1 c ha1.1]
    exact ⟨_, _, ⟨rfl, rfl⟩, fini at1 _ _ _ _ hc1 ha1.1 ha1.2⟩
theorem zeros (n : Nat) : (List.range n).map (fun _ => PV.int 0) = (List.replicate n (0 : Int)).map PV.int := by
  rw [List.map_replicate, List.map_const', List.length_range]
theorem lring_ok {c : Cell} (hc : St2 c) : ∃ w c', St2 c' ∧ Ring w ∧ d_law_ring [.c 0, .p (.int 40)] [c] = .ok (.p (tupI w)) [c'] := by
  obtain ⟨v, c1, hc1, hv, tk⟩ := take_ok hc (m := 40) [] (by omega) (by omega)
  obtain ⟨n, hn⟩ : ∃ n : Nat, 1 + v = (n : Int) := ⟨(1 + v).toNat, by omega⟩
  have d2 : ∀ (i : Int) (S : AH), divO (.p (.int i)) (.p (.int 2)) S = some (.p (.int (i / 2)), S) := fun i S => divO_int (divOk_of (by decide) (by decide))
  obtain ⟨u, c2, hc2, hu, tk2⟩ := take_ok hc1 (m := ((n : Int) + 1) / 2) [.lst ((List.replicate n (0 : Int)).map PV.int)] (by omega) (by omega)
  obtain ⟨m, hm⟩ : ∃ m : Nat, u = (m : Int) := ⟨u.toNat, by omega⟩
  subst hm
  have hz : (rangeI 0 n).length ≤ 16777216 := by rw [rangeI_len]; omega
  obtain ⟨δ', S', e, j, lo, w, last, c3, x4, x6, x7, x8, x9, e1, rfl, rfl, hc3, hw, hl, hs, h1, h2⟩ := for_rule (fb := L0_law_ring) (q := .nm 6) (Turn n m) (xs := rangeI 0 m) (δ := [some (.c 0), some (.p (.int 40)), some (.p (.int n)), some (.c 1), none, some (.p (.int (-1))), none, none, none, none]) (S := [c2, .lst ((List.replicate n (0 : Int)).map PV.int)])
    ⟨m, 0, List.replicate n 0, -1, c2, _, _, _, _, _, rfl, rfl, rfl, hc2, fun b hb => .inl (List.eq_of_mem_replicate hb), by simp, by simp, by omega, by omega⟩
    (fun x xs δ S h => turn_step (by omega) (by omega) x xs δ S h)
  cases j with
  | succ j => rw [range_succ] at e1; cases e1
  | zero =>
  obtain ⟨y3, z3, rfl⟩ := hc3
  refine ⟨w, _, ⟨y3, z3, rfl⟩, ⟨hw, by omega, by omega, by omega⟩, ?_⟩
  obtain ⟨y0, z0, rfl⟩ := hc
  simp [d_law_ring, b_law_ring_, tk, hn, rg_len n (by omega), ev_kLc hz]
  rw [lc_rmap (fun _ => .int 0) (fun k hk => by simp [wipeD]), zeros]
  simp [d2, tk2, kRng1_ok (small62_of (show -(2 ^ 62) < (m : Int) ∧ (m : Int) < 2 ^ 62 by omega)), e, tupleO_c (n := 1) (S := [.lst [.int y3, .int z3], .lst (w.map PV.int)]) rfl, -List.map_replicate]
end DL
namespace DL
open PySem L2
/-! ### values that are no rings, no rooms -/
inductive Sm : PV → Prop
  | non : Sm .non
  | bl (b : Bool) : Sm (.bl b)
  | int (i : Int) : Sm (.int i)
  | str (x : Str) : Sm (.str x)
  | tup (xs : List PV) : Sm (.tup xs)
  | lst (xs : List PV) : Sm (.lst xs)
def isI : PV → Bool
  | .int _ => true
  | _ => false
def bitP : PV → Bool
  | .int i => decide (0 ≤ i) && decide (i ≤ 1)
  | _ => false
theorem isint_sm {x : PV} (h : Sm x) (S : AH) : d_is_integer [.p x] S = .ok (.p (.bl (isI x))) S := by
  cases h <;> simp [d_is_integer, b_is_integer_, isI]
def NotRing (v : PV) : Prop := ∀ S : AH, d_is_ring [.p v] S = .ok (.p (.bl false)) S
theorem nr_non : NotRing .non := fun S => by simp [d_is_ring, b_is_ring_]
theorem nr_int (i : Int) : NotRing (.int i) := fun S => by simp [d_is_ring, b_is_ring_]
theorem nr_bl (i : Bool) : NotRing (.bl i) := fun S => by simp [d_is_ring, b_is_ring_]
theorem nr_str (i : Str) : NotRing (.str i) := fun S => by simp [d_is_ring, b_is_ring_]
theorem nr_lst (i : List PV) : NotRing (.lst i) := fun S => by simp [d_is_ring, b_is_ring_]
theorem nr_nil : NotRing (.tup []) := fun S => by simp [d_is_ring, b_is_ring_]
theorem nr_long {xs : List PV} (h : 40 < xs.length) : NotRing (.tup xs) := fun S => by
  have h1 : ¬ (xs.length : Int) < 1 := by omega
  have h2 : (40 : Int) < xs.length := by omega
  simp [d_is_ring, b_is_ring_, h1, h2]
theorem nr_item {xs : List PV} (hs : ∀ x ∈ xs, Sm x) (hb : xs.all bitP = false) : NotRing (.tup xs) := fun S => by
  by_cases h0 : 40 < xs.length
  · exact nr_long h0 S
  have hp : xs ≠ [] := fun e => by subst e; simp at hb
  have hp := List.length_pos_iff.mpr hp
  have h1 : ¬ (xs.length : Int) < 1 := by omega
  have h2 : ¬ (40 : Int) < xs.length := by omega
  have hz : (dit xs).length ≤ 16777216 := by rw [dit_len]; omega
  simp [d_is_ring, b_is_ring_, h1, h2, ev_kLc hz]
  rw [lc_map trivial (fun x => .bl (bitP x)) (fun x hx => by
    refine ⟨_, rfl, ?_⟩
    have e := isint_sm (hs x hx)
    cases hs x hx with
    | int i =>
      by_cases q : 0 ≤ i
      · simp [e, isI, bitP, wipeD, q]
      · simp [e, isI, bitP, wipeD, q]
    | _ => simp [e, isI, bitP, wipeD])]
  have al : ∀ S : AH, allO [.p (.lst (xs.map (fun x => PV.bl (bitP x))))] S = some (.p (.bl false), S) := fun S => by
    have e : xs.map (fun x => PV.bl (bitP x)) = (xs.map bitP).map PV.bl := by simp
    rw [e, allO_lst, List.all_map]
    show some (DV.p (.bl (xs.all bitP)), S) = _
    rw [hb]
  simp [-List.map_map, al, h1, h2]
theorem nr_sum {w : List Int} (hb : Bits w) (hs : ¬ 2 * w.sum < w.length) : NotRing (tupI w) := fun S => by
  by_cases h0 : 40 < w.length
  · exact nr_long (by rw [List.length_map]; exact h0) S
  by_cases hp : w = []
  · subst hp
    exact nr_nil S
  have hp := List.length_pos_iff.mpr hp
  have h1 : ¬ (w.length : Int) < 1 := by omega
  have h2 : ¬ (40 : Int) < w.length := by omega
  have k : (∀ (m : Int) (S : AH), mulO1 (.p (.int 2)) (.p (.int m)) S = some (.p (.int (2 * m)), S)) := fun m S => mulO1_int (mulOk_l (by decide))
  have hz : (dit (w.map PV.int)).length ≤ 16777216 := by rw [dit_len, List.length_map]; omega
  simp [d_is_ring, b_is_ring_, h1, h2, ev_kLc hz]
  rw [lc_map trivial (fun _ => .bl true) (fun x hx => by
    obtain ⟨i, hi, rfl⟩ := List.mem_map.mp hx
    refine ⟨_, rfl, ?_⟩
    rcases hb i hi with rfl | rfl <;> simp [isint_ok, wipeD])]
  have al : ∀ S : AH, allO [.p (.lst ((w.map PV.int).map (fun _ => PV.bl true)))] S = some (.p (.bl true), S) := fun S => by
    have e : (w.map PV.int).map (fun _ => PV.bl true) = (w.map fun _ => true).map PV.bl := by simp
    rw [e, allO_lst]
    simp
  simp [-List.map_map, al, sumO_tup, k, hs, h1, h2]
def NotRoom (v : PV) : Prop := ∀ S : AH, d_is_room [.p v] S = .ok (.p (.bl false)) S
theorem no_room {v : PV} (h : Sm v) (hi : ∀ i, v = .int i → i < 1 ∨ 1000 < i) : NotRoom v := fun S => by
  have e := isint_sm h S
  cases h with
  | int i =>
    rcases hi i rfl with q | q
    · have q1 : ¬ 1 ≤ i := by omega
      simp [d_is_room, b_is_room_, e, isI, q1]
    · have q1 : 1 ≤ i := by omega
      have q2 : ¬ i ≤ 1000 := by omega
      simp [d_is_room, b_is_room_, e, isI, q1, q2]
  | _ => simp [d_is_room, b_is_room_, e, isI]
/-! ### what they raise -/
abbrev Mf (S : AH) : Res DV := .exc "Malformed" [] S
section
variable {v : PV} {w : List Int}
theorem chk_bad (h : NotRing v) (S : AH) : d_check_ring [.p v] S = Mf S := by
  simp [d_check_ring, b_check_ring_, h S]
theorem cc_bad (h : NotRing v) (l : DV) (S : AH) : d_check_carrier [.p v, l] S = Mf S := by
  simp [d_check_carrier, b_check_carrier_, chk_bad h]
theorem cc_room (h : Ring w) {l : PV} (hl : NotRoom l) (S : AH) : d_check_carrier [.p (tupI w), .p l] S = Mf S := by
  simp [d_check_carrier, b_check_carrier_, chk_ok h, hl S]
theorem high_bad (h : NotRing v) (S : AH) : d_is_high [.p v] S = Mf S := by
  simp [d_is_high, b_is_high_, chk_bad h]
theorem shape_bad (h : NotRing v) (S : AH) : d_shape_of_ring [.p v] S = Mf S := by
  simp [d_shape_of_ring, b_shape_of_ring_, chk_bad h]
theorem angles_bad (h : NotRing v) (S : AH) : d_angles [.p v] S = Mf S := by
  simp [d_angles, b_angles_, chk_bad h]
theorem name_bad (h : NotRing v) (S : AH) : d_road_name [.p v] S = Mf S := by
  simp [d_road_name, b_road_name_, chk_bad h]
theorem table_bad (h : NotRing v) (S : AH) : d_road_table [.p v] S = Mf S := by
  simp [d_road_table, b_road_table_, chk_bad h]
theorem size_bad (h : NotRing v) (S : AH) : d_road_size [.p v] S = Mf S := by
  simp [d_road_size, b_road_size_, table_bad h]
theorem divs_bad (h : NotRing v) (S : AH) : d_road_divisors [.p v] S = Mf S := by
  simp [d_road_divisors, b_road_divisors_, table_bad h]
theorem diff_bad (h : NotRing v) (u : DV) (S : AH) : d_difference [.p v, u] S = Mf S := by
  simp [d_difference, b_difference_, chk_bad h]
theorem diff_bad2 (h : NotRing v) (hw : Ring w) (S : AH) : d_difference [.p (tupI w), .p v] S = Mf S := by
  simp [d_difference, b_difference_, chk_bad h, chk_ok hw]
theorem joint_bad (h : NotRing v) (u : DV) (S : AH) : d_joint_road [.p v, u] S = Mf S := by
  simp [d_joint_road, b_joint_road_, diff_bad h]
theorem joint_bad2 (h : NotRing v) (hw : Ring w) (S : AH) : d_joint_road [.p (tupI w), .p v] S = Mf S := by
  have := diff_bad2 h hw
  simp only [tupI] at this ⊢
  simp [d_joint_road, b_joint_road_, this]
theorem turned_bad (h : NotRing v) (u : DV) (S : AH) : d_turned_ring [.p v, u] S = Mf S := by
  simp [d_turned_ring, b_turned_ring_, chk_bad h]
section
variable {a l : DV} (c : ∀ S : AH, d_check_carrier [a, l] S = Mf S)
include c
theorem car_bad (S : AH) : d_carried_ring [a, l] S = Mf S := by
  simp [d_carried_ring, b_carried_ring_, c]
theorem bak_bad (S : AH) : d_carried_ring_back [a, l] S = Mf S := by
  simp [d_carried_ring_back, b_carried_ring_back_, c]
theorem per_bad (S : AH) : d_period [a, l] S = Mf S := by
  simp [d_period, b_period_, c]
theorem one_bad (u : DV) (S : AH) : d_one_carrier [a, u, l] S = Mf S := by
  simp [d_one_carrier, b_one_carrier_, c]
theorem far_bad (u : DV) (S : AH) : d_far_around [a, l, u] S = Mf S := by
  simp [d_far_around, b_far_around_, c]
end
theorem one_bad2 (h : NotRing v) (hw : Ring w) (S : AH) : d_one_carrier [.p (tupI w), .p v, .p (.int 1)] S = Mf S := by
  have c := chkc_ok hw (l := 1) (by omega) (by omega)
  have d := diff_bad2 h hw
  simp only [tupI] at c d ⊢
  simp [d_one_carrier, b_one_carrier_, c, d]
end
end DL
namespace DL
open PySem L2
def kCallV (tab : FTab) (fs : Sig → AH → Res (List DV)) (δ : Sig) : DV → AH → Res DV := fun d S => match d with
  | .p (.glob n) => match tab.lookup n with
    | some F => (fs δ S).bind fun ds S => F ds S
    | none => .bad
  | _ => .bad
theorem ev_callV2 {tab : FTab} {fa : Sig → AH → Res DV} {fs : Sig → AH → Res (List DV)} {δ : Sig} {S : AH} : dCallV tab fa fs δ S = (fa δ S).bind (kCallV tab fs δ) := rfl
theorem kCallV_at {tab : FTab} {fs : Sig → AH → Res (List DV)} {δ : Sig} {S : AH} {n : Str} {F : List DV → AH → Res DV} (e : tab.lookup n = some F) : kCallV tab fs δ (.p (.glob n)) S = (fs δ S).bind F := by
  unfold kCallV
  simp only [e]
theorem t7i0 (S : AH) : ixO (.p (.lst [PV.glob "is_high", PV.glob "shape_of_ring", PV.glob "angles", PV.glob "road_name", PV.glob "road_table", PV.glob "road_size", PV.glob "road_divisors"])) (.p (.int 0)) S = some (.p (.glob "is_high"), S) := ixO_lst rfl
theorem t7c0 {fs : Sig → AH → Res (List DV)} {δ : Sig} {S : AH} : kCallV [("is_high", d_is_high), ("shape_of_ring", d_shape_of_ring), ("angles", d_angles), ("road_name", d_road_name), ("road_table", d_road_table), ("road_size", d_road_size), ("road_divisors", d_road_divisors)] fs δ (.p (.glob "is_high")) S = (fs δ S).bind d_is_high := kCallV_at rfl
theorem t7i1 (S : AH) : ixO (.p (.lst [PV.glob "is_high", PV.glob "shape_of_ring", PV.glob "angles", PV.glob "road_name", PV.glob "road_table", PV.glob "road_size", PV.glob "road_divisors"])) (.p (.int 1)) S = some (.p (.glob "shape_of_ring"), S) := ixO_lst rfl
theorem t7c1 {fs : Sig → AH → Res (List DV)} {δ : Sig} {S : AH} : kCallV [("is_high", d_is_high), ("shape_of_ring", d_shape_of_ring), ("angles", d_angles), ("road_name", d_road_name), ("road_table", d_road_table), ("road_size", d_road_size), ("road_divisors", d_road_divisors)] fs δ (.p (.glob "shape_of_ring")) S = (fs δ S).bind d_shape_of_ring := kCallV_at rfl
theorem t7i2 (S : AH) : ixO (.p (.lst [PV.glob "is_high", PV.glob "shape_of_ring", PV.glob "angles", PV.glob "road_name", PV.glob "road_table", PV.glob "road_size", PV.glob "road_divisors"])) (.p (.int 2)) S = some (.p (.glob "angles"), S) := ixO_lst rfl
theorem t7c2 {fs : Sig → AH → Res (List DV)} {δ : Sig} {S : AH} : kCallV [("is_high", d_is_high), ("shape_of_ring", d_shape_of_ring), ("angles", d_angles), ("road_name", d_road_name), ("road_table", d_road_table), ("road_size", d_road_size), ("road_divisors", d_road_divisors)] fs δ (.p (.glob "angles")) S = (fs δ S).bind d_angles := kCallV_at rfl
theorem t7i3 (S : AH) : ixO (.p (.lst [PV.glob "is_high", PV.glob "shape_of_ring", PV.glob "angles", PV.glob "road_name", PV.glob "road_table", PV.glob "road_size", PV.glob "road_divisors"])) (.p (.int 3)) S = some (.p (.glob "road_name"), S) := ixO_lst rfl
theorem t7c3 {fs : Sig → AH → Res (List DV)} {δ : Sig} {S : AH} : kCallV [("is_high", d_is_high), ("shape_of_ring", d_shape_of_ring), ("angles", d_angles), ("road_name", d_road_name), ("road_table", d_road_table), ("road_size", d_road_size), ("road_divisors", d_road_divisors)] fs δ (.p (.glob "road_name")) S = (fs δ S).bind d_road_name := kCallV_at rfl
theorem t7i4 (S : AH) : ixO (.p (.lst [PV.glob "is_high", PV.glob "shape_of_ring", PV.glob "angles", PV.glob "road_name", PV.glob "road_table", PV.glob "road_size", PV.glob "road_divisors"])) (.p (.int 4)) S = some (.p (.glob "road_table"), S) := ixO_lst rfl
theorem t7c4 {fs : Sig → AH → Res (List DV)} {δ : Sig} {S : AH} : kCallV [("is_high", d_is_high), ("shape_of_ring", d_shape_of_ring), ("angles", d_angles), ("road_name", d_road_name), ("road_table", d_road_table), ("road_size", d_road_size), ("road_divisors", d_road_divisors)] fs δ (.p (.glob "road_table")) S = (fs δ S).bind d_road_table := kCallV_at rfl
theorem t7i5 (S : AH) : ixO (.p (.lst [PV.glob "is_high", PV.glob "shape_of_ring", PV.glob "angles", PV.glob "road_name", PV.glob "road_table", PV.glob "road_size", PV.glob "road_divisors"])) (.p (.int 5)) S = some (.p (.glob "road_size"), S) := ixO_lst rfl
theorem t7c5 {fs : Sig → AH → Res (List DV)} {δ : Sig} {S : AH} : kCallV [("is_high", d_is_high), ("shape_of_ring", d_shape_of_ring), ("angles", d_angles), ("road_name", d_road_name), ("road_table", d_road_table), ("road_size", d_road_size), ("road_divisors", d_road_divisors)] fs δ (.p (.glob "road_size")) S = (fs δ S).bind d_road_size := kCallV_at rfl
theorem t7i6 (S : AH) : ixO (.p (.lst [PV.glob "is_high", PV.glob "shape_of_ring", PV.glob "angles", PV.glob "road_name", PV.glob "road_table", PV.glob "road_size", PV.glob "road_divisors"])) (.p (.int 6)) S = some (.p (.glob "road_divisors"), S) := ixO_lst rfl
theorem t7c6 {fs : Sig → AH → Res (List DV)} {δ : Sig} {S : AH} : kCallV [("is_high", d_is_high), ("shape_of_ring", d_shape_of_ring), ("angles", d_angles), ("road_name", d_road_name), ("road_table", d_road_table), ("road_size", d_road_size), ("road_divisors", d_road_divisors)] fs δ (.p (.glob "road_divisors")) S = (fs δ S).bind d_road_divisors := kCallV_at rfl
theorem t2i0 (S : AH) : ixO (.p (.lst [PV.glob "difference", PV.glob "joint_road"])) (.p (.int 0)) S = some (.p (.glob "difference"), S) := ixO_lst rfl
theorem t2c0 {fs : Sig → AH → Res (List DV)} {δ : Sig} {S : AH} : kCallV [("difference", d_difference), ("joint_road", d_joint_road)] fs δ (.p (.glob "difference")) S = (fs δ S).bind d_difference := kCallV_at rfl
theorem t2i1 (S : AH) : ixO (.p (.lst [PV.glob "difference", PV.glob "joint_road"])) (.p (.int 1)) S = some (.p (.glob "joint_road"), S) := ixO_lst rfl
theorem t2c1 {fs : Sig → AH → Res (List DV)} {δ : Sig} {S : AH} : kCallV [("difference", d_difference), ("joint_road", d_joint_road)] fs δ (.p (.glob "joint_road")) S = (fs δ S).bind d_joint_road := kCallV_at rfl
theorem t3i0 (S : AH) : ixO (.p (.lst [PV.glob "carried_ring", PV.glob "carried_ring_back", PV.glob "period"])) (.p (.int 0)) S = some (.p (.glob "carried_ring"), S) := ixO_lst rfl
theorem t3c0 {fs : Sig → AH → Res (List DV)} {δ : Sig} {S : AH} : kCallV [("carried_ring", d_carried_ring), ("carried_ring_back", d_carried_ring_back), ("period", d_period)] fs δ (.p (.glob "carried_ring")) S = (fs δ S).bind d_carried_ring := kCallV_at rfl
theorem t3i1 (S : AH) : ixO (.p (.lst [PV.glob "carried_ring", PV.glob "carried_ring_back", PV.glob "period"])) (.p (.int 1)) S = some (.p (.glob "carried_ring_back"), S) := ixO_lst rfl
theorem t3c1 {fs : Sig → AH → Res (List DV)} {δ : Sig} {S : AH} : kCallV [("carried_ring", d_carried_ring), ("carried_ring_back", d_carried_ring_back), ("period", d_period)] fs δ (.p (.glob "carried_ring_back")) S = (fs δ S).bind d_carried_ring_back := kCallV_at rfl
theorem t3i2 (S : AH) : ixO (.p (.lst [PV.glob "carried_ring", PV.glob "carried_ring_back", PV.glob "period"])) (.p (.int 2)) S = some (.p (.glob "period"), S) := ixO_lst rfl
theorem t3c2 {fs : Sig → AH → Res (List DV)} {δ : Sig} {S : AH} : kCallV [("carried_ring", d_carried_ring), ("carried_ring_back", d_carried_ring_back), ("period", d_period)] fs δ (.p (.glob "period")) S = (fs δ S).bind d_period := kCallV_at rfl
section
variable {v : PV} {w : List Int}
theorem call_bad (h : NotRing v) (hw : Ring w) (S : AH) : ∀ k < 18, d_law_call [.p (.int (k : Nat)), .p v, .p (tupI w), .p (.int 1)] S = Mf S := by
  have a1 := turned_bad h
  have a2 := cc_bad h (.p (.int 1))
  have a3 := one_bad2 h hw
  have a4 := diff_bad2 h hw
  have a5 := joint_bad2 h hw
  simp only [tupI] at a3 a4 a5
  intro k hk
  have : k = 0 ∨ k = 1 ∨ k = 2 ∨ k = 3 ∨ k = 4 ∨ k = 5 ∨ k = 6 ∨ k = 7 ∨ k = 8 ∨ k = 9 ∨ k = 10 ∨ k = 11 ∨ k = 12 ∨ k = 13 ∨ k = 14 ∨ k = 15 ∨ k = 16 ∨ k = 17 := by omega
  rcases this with rfl | rfl | rfl | rfl | rfl | rfl | rfl | rfl | rfl | rfl | rfl | rfl | rfl | rfl | rfl | rfl | rfl | rfl
  · simp [d_law_call, b_law_call_, ev_callV2, t7i0, t7c0, high_bad h]
  · simp [d_law_call, b_law_call_, ev_callV2, t7i1, t7c1, shape_bad h]
  · simp [d_law_call, b_law_call_, ev_callV2, t7i2, t7c2, angles_bad h]
  · simp [d_law_call, b_law_call_, ev_callV2, t7i3, t7c3, name_bad h]
  · simp [d_law_call, b_law_call_, ev_callV2, t7i4, t7c4, table_bad h]
  · simp [d_law_call, b_law_call_, ev_callV2, t7i5, t7c5, size_bad h]
  · simp [d_law_call, b_law_call_, ev_callV2, t7i6, t7c6, divs_bad h]
  · simp [d_law_call, b_law_call_, ev_callV2, t2i0, t2c0, diff_bad h]
  · simp [d_law_call, b_law_call_, ev_callV2, t2i1, t2c1, joint_bad h]
  · simp [d_law_call, b_law_call_, ev_callV2, t2i0, t2c0, a4]
  · simp [d_law_call, b_law_call_, ev_callV2, t2i1, t2c1, a5]
  · simp [d_law_call, b_law_call_, a1]
  · simp [d_law_call, b_law_call_, ev_callV2, t3i0, t3c0, car_bad a2]
  · simp [d_law_call, b_law_call_, ev_callV2, t3i1, t3c1, bak_bad a2]
  · simp [d_law_call, b_law_call_, ev_callV2, t3i2, t3c2, per_bad a2]
  · simp [d_law_call, b_law_call_, one_bad a2]
  · simp [d_law_call, b_law_call_, a3]
  · simp [d_law_call, b_law_call_, far_bad a2]
theorem call_room {l : PV} (hl : NotRoom l) (hw : Ring w) (S : AH) : ∀ k, 12 ≤ k → k < 18 → d_law_call [.p (.int (k : Nat)), .p (tupI w), .p (tupI w), .p l] S = Mf S := by
  have a2 := cc_room hw hl
  simp only [tupI] at a2
  intro k h0 hk
  have : k = 12 ∨ k = 13 ∨ k = 14 ∨ k = 15 ∨ k = 16 ∨ k = 17 := by omega
  rcases this with rfl | rfl | rfl | rfl | rfl | rfl
  · simp [d_law_call, b_law_call_, ev_callV2, t3i0, t3c0, car_bad a2]
  · simp [d_law_call, b_law_call_, ev_callV2, t3i1, t3c1, bak_bad a2]
  · simp [d_law_call, b_law_call_, ev_callV2, t3i2, t3c2, per_bad a2]
  · simp [d_law_call, b_law_call_, one_bad a2]
  · simp [d_law_call, b_law_call_, one_bad a2]
  · simp [d_law_call, b_law_call_, far_bad a2]
theorem refused_of {a b c d : PV} (h : ∀ S : AH, d_law_call [.p a, .p b, .p c, .p d] S = Mf S) (S : AH) : d_law_refused [.p a, .p b, .p c, .p d] S = .ok (.p (.bl true)) S := by
  simp [d_law_refused, b_law_refused_, h, try_exc (show sub_Malformed "Malformed" = some true from rfl)]
end
end DL
namespace DL
open PySem L2
/-! ### nothing odd -/
theorem eq_word_int {i : Int} {S : AH} : eqO (.p (.int i)) (.p (.str "a word that nothing else is")) S = some (.p (.bl false), S) := by
  obtain ⟨d, h1, h2⟩ := fit_shaped (x := .str "a word that nothing else is") (n := 1) (show (PyData.str "a word that nothing else is").canLay0 = true from by decide +kernel) (by decide)
  have e1 : PV.data (.str "a word that nothing else is") = some (.str "a word that nothing else is") := by simp [PV.data]
  rw [e1] at h1
  cases h1
  unfold eqO dataOf
  simp only [e1, PV.data, eqDat, h2, show SeqAt.shaped (.int i) = true from rfl, and_self, if_true, Option.map_some]
  rfl
theorem eq_word_tup {w : List Int} {S : AH} : eqO (.p (.tup (w.map PV.int))) (.p (.str "a word that nothing else is")) S = some (.p (.bl false), S) := by
  obtain ⟨d, h1, h2⟩ := fit_shaped (x := .str "a word that nothing else is") (n := 1) (show (PyData.str "a word that nothing else is").canLay0 = true from by decide +kernel) (by decide)
  have e1 : PV.data (.str "a word that nothing else is") = some (.str "a word that nothing else is") := by simp [PV.data]
  rw [e1] at h1
  cases h1
  obtain ⟨c, k1, k2⟩ := fit_shaped (n := 1) (fit_tupI (n := 0) (ns := w)) (by decide)
  have e2 : PV.data (.tup (w.map PV.int)) = some (.tuple (w.map PyData.int)) := by simp [PV.data, datas_ints]
  rw [show tupI w = .tup (w.map PV.int) from rfl, e2] at k1
  cases k1
  unfold eqO dataOf
  simp only [e1, e2, eqDat, h2, k2, and_self, if_true, Option.map_some]
  rfl
theorem odd_int (n : Nat) (i : Int) (S : AH) : d_law_odd (n + 1) [.p (.int i)] S = .ok (.p (.bl false)) S := by
  simp [d_law_odd, eq_word_int]
theorem odd_tup (n : Nat) {w : List Int} (hw : w.length ≤ 1000) (S : AH) : d_law_odd (n + 2) [.p (tupI w)] S = .ok (.p (.bl false)) S := by
  have hz : (dit (w.map PV.int)).length ≤ 16777216 := by rw [dit_len, List.length_map]; omega
  have oi := fun i S => odd_int n i S
  rw [d_law_odd]
  generalize d_law_odd (n + 1) = F at *
  simp [eq_word_tup, ev_kLc hz]
  rw [lc_filter trivial (fun _ => false) id (fun x hx => by
    obtain ⟨i, hi, rfl⟩ := List.mem_map.mp hx
    exact ⟨_, rfl, by simp [oi, wipeD], fun e => by cases e⟩)]
  simp
theorem honest_tup {w : List Int} (hw : w.length ≤ 1000) (S : AH) : d_law_honest [.p (tupI w)] S = .ok (.p (tupI w)) S := by
  have := odd_tup 6 hw
  simp only [tupI] at this ⊢
  simp [d_law_honest, b_law_honest_, this]
/-! ### the law's loops -/
def IsRing (v : PV) : Prop := ∀ S : AH, d_is_ring [.p v] S = .ok (.p (.bl true)) S
theorem yes_loop (e0 e1 e2 e4 e5 e6 e7 e8 : Option DV) (S : AH) : ∀ (vs : List PV) (x : Option DV), (∀ v ∈ vs, IsRing v) → ∃ x', forGo ckT (.nm 3) L0_law (dit vs) [e0, e1, e2, x, e4, e5, e6, e7, e8] S = .nx [e0, e1, e2, x', e4, e5, e6, e7, e8] S
  | [], x, _ => ⟨x, for_nil⟩
  | v :: vs, x, h => by
    obtain ⟨x', e⟩ := yes_loop e0 e1 e2 e4 e5 e6 e7 e8 S vs (some (.p v)) fun y hy => h y (List.mem_cons_of_mem _ hy)
    have hv := h v List.mem_cons_self
    refine ⟨x', ?_⟩
    rw [dit_cons, for_nm]
    have st : L0_law ([e0, e1, e2, x, e4, e5, e6, e7, e8].set 3 (some (.p v))) S = .nx [e0, e1, e2, some (.p v), e4, e5, e6, e7, e8] S := by
      simp [L0_law, hv S]
    rw [st, after_nx, e]
theorem no_loop (e0 e1 e2 e4 e5 e6 e7 e8 : Option DV) (S : AH) : ∀ (vs : List PV) (x : Option DV), (∀ v ∈ vs, NotRing v) → ∃ x', forGo ckT (.nm 3) L1_law (dit vs) [e0, e1, e2, x, e4, e5, e6, e7, e8] S = .nx [e0, e1, e2, x', e4, e5, e6, e7, e8] S
  | [], x, _ => ⟨x, for_nil⟩
  | v :: vs, x, h => by
    obtain ⟨x', e⟩ := no_loop e0 e1 e2 e4 e5 e6 e7 e8 S vs (some (.p v)) fun y hy => h y (List.mem_cons_of_mem _ hy)
    have hv := h v List.mem_cons_self
    refine ⟨x', ?_⟩
    rw [dit_cons, for_nm]
    have st : L1_law ([e0, e1, e2, x, e4, e5, e6, e7, e8].set 3 (some (.p v))) S = .nx [e0, e1, e2, some (.p v), e4, e5, e6, e7, e8] S := by
      simp [L1_law, hv S]
    rw [st, after_nx, e]
theorem bad_loop {v : PV} {w : List Int} (hv : NotRing v) (hw : Ring w) (e0 e1 e3 e4 e7 e8 : Option DV) (S : AH) : ∀ (m lo : Nat) (x : Option DV), lo + m ≤ 18 → ∃ x', forGo ckT (.nm 6) L2_law (rangeI lo m) [e0, e1, some (.p (tupI w)), e3, e4, some (.p v), x, e7, e8] S = .nx [e0, e1, some (.p (tupI w)), e3, e4, some (.p v), x', e7, e8] S
  | 0, lo, x, _ => ⟨x, for_nil⟩
  | m + 1, lo, x, h => by
    obtain ⟨x', e⟩ := bad_loop hv hw e0 e1 e3 e4 e7 e8 S m (lo + 1) (some (.p (.int lo))) (by omega)
    refine ⟨x', ?_⟩
    have r := refused_of (fun S => call_bad hv hw S lo (by omega)) S
    rw [range_succ, for_nm]
    have st : L2_law ([e0, e1, some (.p (tupI w)), e3, e4, some (.p v), x, e7, e8].set 6 (some (.p (.int (lo : Int))))) S = .nx [e0, e1, some (.p (tupI w)), e3, e4, some (.p v), some (.p (.int lo)), e7, e8] S := by
      simp only [tupI] at r ⊢
      simp [L2_law, r]
    rw [st, after_nx]
    exact e
theorem room_loop {l : PV} {w : List Int} (hl : NotRoom l) (hw : Ring w) (e0 e1 e3 e4 e5 e8 : Option DV) (S : AH) : ∀ (m lo : Nat) (x : Option DV), 12 ≤ lo → lo + m ≤ 18 → ∃ x', forGo ckT (.nm 6) L3_law (rangeI lo m) [e0, e1, some (.p (tupI w)), e3, e4, e5, x, some (.p l), e8] S = .nx [e0, e1, some (.p (tupI w)), e3, e4, e5, x', some (.p l), e8] S
  | 0, lo, x, _, _ => ⟨x, for_nil⟩
  | m + 1, lo, x, h0, h => by
    obtain ⟨x', e⟩ := room_loop hl hw e0 e1 e3 e4 e5 e8 S m (lo + 1) (some (.p (.int lo))) (by omega) (by omega)
    refine ⟨x', ?_⟩
    have r := refused_of (fun S => call_room hl hw S lo h0 (by omega)) S
    rw [range_succ, for_nm]
    have st : L3_law ([e0, e1, some (.p (tupI w)), e3, e4, e5, x, some (.p l), e8].set 6 (some (.p (.int (lo : Int))))) S = .nx [e0, e1, some (.p (tupI w)), e3, e4, e5, some (.p (.int lo)), some (.p l), e8] S := by
      simp only [tupI] at r ⊢
      simp [L3_law, r]
    rw [st, after_nx]
    exact e
theorem turn_loop {w : List Int} (hw : Ring w) (e0 e1 e3 e4 e5 e6 e7 : Option DV) (S : AH) : ∀ (ds : List Int) (x : Option DV), ∃ x', forGo ckT (.nm 8) L4_law (dit (ds.map PV.int)) [e0, e1, some (.p (tupI w)), e3, e4, e5, e6, e7, x] S = .nx [e0, e1, some (.p (tupI w)), e3, e4, e5, e6, e7, x'] S
  | [], x => ⟨x, for_nil⟩
  | d :: ds, x => by
    obtain ⟨x', e⟩ := turn_loop hw e0 e1 e3 e4 e5 e6 e7 S ds (some (.p (.int d)))
    refine ⟨x', ?_⟩
    have hm := hw.m
    have t1 := turned_ok hw d
    have tl := trn_len (d := d) hw.p
    have t2 := lturned_ok hw.p (by omega) d
    have t3 := honest_tup (w := trn d w) (by omega)
    have ne := fun S : AH => neO_self (n := 1) (S := S) (fit_tupI (n := 0) (ns := trn d w)) (by decide)
    rw [List.map_cons, dit_cons, for_nm]
    have st : L4_law ([e0, e1, some (.p (tupI w)), e3, e4, e5, e6, e7, x].set 8 (some (.p (.int d)))) S = .nx [e0, e1, some (.p (tupI w)), e3, e4, e5, e6, e7, some (.p (.int d))] S := by
      simp only [tupI] at t1 t2 t3 ne ⊢
      simp [L4_law, t1, t2, t3, ne]
    rw [st, after_nx, e]
theorem mul_rep {x : PV} {k : Nat} (h : 1 ≤ k ∧ k ≤ 1000) (S : AH) : mulO1 (.p (.tup [x])) (.p (.int (k : Int))) S = some (.p (.tup (List.replicate k x)), S) := by
  rw [mulO1_tup ⟨by simp, by omega, by omega, by simp⟩]
  simp
end DL
namespace DL
open PySem L2
theorem atI_ex {xs : List PV} {i : Int} (h0 : 0 ≤ i) (h : i < xs.length) : ∃ x, atI xs i = some x ∧ x ∈ xs := by
  have hi : i.toNat < xs.length := by omega
  exact ⟨xs[i.toNat], atI_at h0 (List.getElem?_eq_getElem hi), List.getElem_mem hi⟩
theorem bits_rep (k : Nat) : Bits (List.replicate k 1) := fun b hb => .inr (List.eq_of_mem_replicate hb)
theorem bits_app {u v : List Int} (hu : Bits u) (hv : Bits v) : Bits (u ++ v) := fun b hb => by
  rcases List.mem_append.mp hb with q | q
  · exact hu b q
  · exact hv b q
/-- what no ring is, as the law lists it -/
def noRings (w : List Int) : List PV :=
  [.non, .int 5, .bl true, .str "0", .str "00", .tup [], .lst [.int 0], .lst (w.map PV.int), .tup [.int 1], .tup [.int 0, .int 1], .tup [.int 0, .int 0, .int 2], .tup [.int 0, .int 0, .bl true], .tup [.int 0, .bl false, .int 0],
   .tup [.int 0, .int 0, .non], .tup [.int 0, .int 0, .str "1"], .tup [.tup [.int 0]], .tup [.int 0, .int 0, .int (-1)], .tup (List.replicate 41 (.int 0)), .tup (List.replicate 21 (.int 0) ++ List.replicate 20 (.int 1)),
   .tup (List.replicate 20 [PV.int 0, PV.int 1]).flatten, .tup (w.map PV.int ++ List.replicate w.length (.int 1)), .tup [.int 0, .int 0, .tup [.int 0]], .str "001"]
theorem sm3 {a b c : PV} (ha : Sm a) (hb : Sm b) (hc : Sm c) : ∀ x ∈ [a, b, c], Sm x := fun x hx => by
  simp only [List.mem_cons, List.not_mem_nil, or_false] at hx
  rcases hx with rfl | rfl | rfl
  · exact ha
  · exact hb
  · exact hc
theorem noRings_no {w : List Int} (hw : Ring w) : ∀ v ∈ noRings w, NotRing v := fun v hv => by
  unfold noRings at hv
  simp only [List.mem_cons, List.not_mem_nil, or_false] at hv
  rcases hv with rfl | rfl | rfl | rfl | rfl | rfl | rfl | rfl | rfl | rfl | rfl | rfl | rfl | rfl | rfl | rfl | rfl | rfl | rfl | rfl | rfl | rfl | rfl
  · exact nr_non
  · exact nr_int _
  · exact nr_bl _
  · exact nr_str _
  · exact nr_str _
  · exact nr_nil
  · exact nr_lst _
  · exact nr_lst _
  · exact nr_sum (w := [1]) (fun b hb => by simp at hb; exact .inr hb) (by decide)
  · exact nr_sum (w := [0, 1]) (fun b hb => by simpa using hb) (by decide)
  · exact nr_item (sm3 (.int _) (.int _) (.int _)) rfl
  · exact nr_item (sm3 (.int _) (.int _) (.bl _)) rfl
  · exact nr_item (sm3 (.int _) (.bl _) (.int _)) rfl
  · exact nr_item (sm3 (.int _) (.int _) .non) rfl
  · exact nr_item (sm3 (.int _) (.int _) (.str _)) rfl
  · exact nr_item (fun x hx => by rcases List.mem_singleton.mp hx with rfl; exact .tup _) rfl
  · exact nr_item (sm3 (.int _) (.int _) (.int _)) rfl
  · exact nr_long (by rw [List.length_replicate]; decide)
  · exact nr_long (by rw [List.length_append, List.length_replicate, List.length_replicate]; decide)
  · exact nr_sum (w := (List.replicate 20 [(0 : Int), 1]).flatten) (show ∀ b ∈ (List.replicate 20 [(0 : Int), 1]).flatten, b = 0 ∨ b = 1 from by decide) (by decide)
  · have e : tupI (w ++ List.replicate w.length 1) = .tup (w.map PV.int ++ List.replicate w.length (.int 1)) := by rw [tupI, List.map_append, List.map_replicate]
    rw [← e]
    refine nr_sum (bits_app hw.b (bits_rep _)) ?_
    have s0 : ∀ k : Nat, (List.replicate k (1 : Int)).sum = k := fun k => by
      induction k with
      | zero => rfl
      | succ k ih => rw [List.replicate_succ, List.sum_cons, ih]; omega
    have s1 : ∀ u : List Int, Bits u → 0 ≤ u.sum := fun u => by
      induction u with
      | nil => intro _; exact Int.le_refl _
      | cons b u ih =>
        intro h
        have := ih h.tl
        rw [List.sum_cons]
        rcases h.hd with rfl | rfl <;> omega
    have := s1 w hw.b
    rw [List.sum_append, List.length_append, List.length_replicate, s0]
    omega
  · exact nr_item (sm3 (.int _) (.int _) (.tup _)) rfl
  · exact nr_str _
theorem ring_lit : ∀ v ∈ [PV.tup [.int 0], .tup (List.replicate 40 (.int 0)), .tup (List.replicate 21 (.int 0) ++ List.replicate 19 (.int 1)), .tup [.int 1, .int 0, .int 0]], IsRing v := fun v hv => by
  simp only [List.mem_cons, List.not_mem_nil, or_false] at hv
  rcases hv with rfl | rfl | rfl | rfl
  · exact fun S => ring_ok (w := [0]) ⟨show ∀ b ∈ [(0 : Int)], b = 0 ∨ b = 1 from by decide, by decide, by decide, by decide⟩ S
  · exact fun S => ring_ok (w := List.replicate 40 0) ⟨show ∀ b ∈ List.replicate 40 (0 : Int), b = 0 ∨ b = 1 from by decide, by decide, by decide, by decide⟩ S
  · have e : tupI (List.replicate 21 0 ++ List.replicate 19 1) = .tup (List.replicate 21 (.int 0) ++ List.replicate 19 (.int 1)) := by rw [tupI, List.map_append, List.map_replicate, List.map_replicate]
    rw [← e]
    exact fun S => ring_ok ⟨show ∀ b ∈ List.replicate 21 (0 : Int) ++ List.replicate 19 1, b = 0 ∨ b = 1 from by decide, by decide, by decide, by decide⟩ S
  · exact fun S => ring_ok (w := [1, 0, 0]) ⟨show ∀ b ∈ [(1 : Int), 0, 0], b = 0 ∨ b = 1 from by decide, by decide, by decide, by decide⟩ S
theorem rooms_no : ∀ v ∈ [PV.int 0, .int (-1), .int 1001, .bl true, .non, .str "1", .tup [.int 1], .int 1000000000], NotRoom v := fun v hv => by
  simp only [List.mem_cons, List.not_mem_nil, or_false] at hv
  rcases hv with rfl | rfl | rfl | rfl | rfl | rfl | rfl | rfl
  · exact no_room (.int _) fun i e => by cases e; omega
  · exact no_room (.int _) fun i e => by cases e; omega
  · exact no_room (.int _) fun i e => by cases e; omega
  · exact no_room (.bl _) fun i e => by cases e
  · exact no_room .non fun i e => by cases e
  · exact no_room (.str _) fun i e => by cases e
  · exact no_room (.tup _) fun i e => by cases e
  · exact no_room (.int _) fun i e => by cases e; omega
theorem law_true (ns : List Int) (hn : ns.length ≤ 63) : ∃ S, d_law [.p (.fro (ns.map PV.int))] [] = .ok (.p (.bl true)) S := by
  obtain ⟨a, b, t0⟩ := state_ok ns
  obtain ⟨w, c1, hc1, hw, t1⟩ := lring_ok (c := .lst [.int a, .int b]) ⟨a, b, rfl⟩
  obtain ⟨v, c2, hc2, hv, t2⟩ := take_ok hc1 (m := 23) [] (by omega) (by omega)
  obtain ⟨r, c3, hc3, hr, t3⟩ := take_ok hc2 (m := 8) [] (by omega) (by omega)
  obtain ⟨d1, c4, hc4, _, t4⟩ := take_ok hc3 (m := 201) [] (by omega) (by omega)
  obtain ⟨d2, c5, hc5, _, t5⟩ := take_ok hc4 (m := 100) [] (by omega) (by omega)
  have hm := hw.m
  have hp := hw.p
  obtain ⟨bad, eb, mb⟩ := atI_ex (xs := noRings w) hv.1 hv.2
  obtain ⟨room, er, mr⟩ := atI_ex (xs := [PV.int 0, .int (-1), .int 1001, .bl true, .non, .str "1", .tup [.int 1], .int 1000000000]) hr.1 hr.2
  have nb := noRings_no hw bad mb
  have nr := rooms_no room mr
  obtain ⟨y1, l1⟩ := yes_loop (some (.p (.fro (ns.map PV.int)))) (some (.c 0)) (some (.p (tupI w))) none none none none none [c1] [tupI w, PV.tup [.int 0], .tup (List.replicate 40 (.int 0)), .tup (List.replicate 21 (.int 0) ++ List.replicate 19 (.int 1)), .tup [.int 1, .int 0, .int 0]] none (fun v hv => by
    rcases List.mem_cons.mp hv with rfl | hv
    · exact ring_ok hw
    · exact ring_lit v hv)
  obtain ⟨y2, l2⟩ := no_loop (some (.p (.fro (ns.map PV.int)))) (some (.c 0)) (some (.p (tupI w))) (some (.p (.lst (noRings w)))) none none none none [c1] (noRings w) y1 (noRings_no hw)
  obtain ⟨y3, l3⟩ := bad_loop nb hw (some (.p (.fro (ns.map PV.int)))) (some (.c 0)) y2 (some (.p (.lst (noRings w)))) none none [c2] 18 0 none (by omega)
  obtain ⟨y4, l4⟩ := room_loop nr hw (some (.p (.fro (ns.map PV.int)))) (some (.c 0)) y2 (some (.p (.lst (noRings w)))) (some (.p bad)) none [c3] 6 12 y3 (by omega) (by omega)
  obtain ⟨y5, l5⟩ := turn_loop hw (some (.p (.fro (ns.map PV.int)))) (some (.c 0)) y2 (some (.p (.lst (noRings w)))) (some (.p bad)) y4 (some (.p room)) [c5] [d1 - 100, 1000000000000 + d2, 0] none
  have m40 : ∀ S, mulO1 (.p (.tup [.int 0])) (.p (.int 40)) S = some (.p (.tup (List.replicate 40 (.int 0))), S) := fun S => mul_rep (k := 40) (by omega) S
  have m21 : ∀ S, mulO1 (.p (.tup [.int 0])) (.p (.int 21)) S = some (.p (.tup (List.replicate 21 (.int 0))), S) := fun S => mul_rep (k := 21) (by omega) S
  have m41 : ∀ S, mulO1 (.p (.tup [.int 0])) (.p (.int 41)) S = some (.p (.tup (List.replicate 41 (.int 0))), S) := fun S => mul_rep (k := 41) (by omega) S
  have m19 : ∀ S, mulO1 (.p (.tup [.int 1])) (.p (.int 19)) S = some (.p (.tup (List.replicate 19 (.int 1))), S) := fun S => mul_rep (k := 19) (by omega) S
  have m20 : ∀ S, mulO1 (.p (.tup [.int 1])) (.p (.int 20)) S = some (.p (.tup (List.replicate 20 (.int 1))), S) := fun S => mul_rep (k := 20) (by omega) S
  have mw : ∀ S, mulO1 (.p (.tup [.int 1])) (.p (.int w.length)) S = some (.p (.tup (List.replicate w.length (.int 1))), S) := fun S => mul_rep (by omega) S
  have m01 : ∀ S, mulO1 (.p (.tup [.int 0, .int 1])) (.p (.int 20)) S = some (.p (.tup (List.replicate 20 [PV.int 0, PV.int 1]).flatten), S) := fun S => mulO1_tup ⟨by simp, by omega, by omega, by simp⟩
  have a19 : ∀ S, addO (.p (.tup (List.replicate 21 (.int 0)))) (.p (.tup (List.replicate 19 (.int 1)))) S = some (.p (.tup (List.replicate 21 (.int 0) ++ List.replicate 19 (.int 1))), S) := fun S => addO_tup (by simp)
  have a20 : ∀ S, addO (.p (.tup (List.replicate 21 (.int 0)))) (.p (.tup (List.replicate 20 (.int 1)))) S = some (.p (.tup (List.replicate 21 (.int 0) ++ List.replicate 20 (.int 1))), S) := fun S => addO_tup (by simp)
  have aw : ∀ S, addO (.p (.tup (w.map PV.int))) (.p (.tup (List.replicate w.length (.int 1)))) S = some (.p (.tup (w.map PV.int ++ List.replicate w.length (.int 1))), S) := fun S => addO_tup (by simp; omega)
  have s1 : ∀ S, addO (.p (.lst [.non, .int 5, .bl true, .str "0", .str "00", .tup [], .lst [.int 0], .lst (w.map PV.int), .tup [.int 1], .tup [.int 0, .int 1], .tup [.int 0, .int 0, .int 2], .tup [.int 0, .int 0, .bl true], .tup [.int 0, .bl false, .int 0]]))
    (.p (.lst [.tup [.int 0, .int 0, .non], .tup [.int 0, .int 0, .str "1"], .tup [.tup [.int 0]], .tup [.int 0, .int 0, .int (-1)], .tup (List.replicate 41 (.int 0)), .tup (List.replicate 21 (.int 0) ++ List.replicate 20 (.int 1))])) S
    = some (.p (.lst ((noRings w).take 19)), S) := fun S => addO_lst (by simp)
  have s2 : ∀ S, addO (.p (.lst ((noRings w).take 19))) (.p (.lst [.tup (List.replicate 20 [PV.int 0, PV.int 1]).flatten, .tup (w.map PV.int ++ List.replicate w.length (.int 1)), .tup [.int 0, .int 0, .tup [.int 0]], .str "001"])) S
    = some (.p (.lst (noRings w)), S) := fun S => addO_lst (by simp [noRings])
  have lf : ∀ S, kAppF listF [.p (.tup (w.map PV.int))] S = .ok (w.map PV.int) S := fun S => kAppF_some listF_tup
  have ln : ((noRings w).length : Int) = 23 := rfl
  have rg : ∀ S, kRng1 [.p (.int 18)] S = .ok (rangeI 0 18, ckT) S := fun S => rg_len 18 (by omega) S
  have rg2 : ∀ S, kRng2 [.p (.int 12), .p (.int 18)] S = .ok (rangeI 12 6, ckT) S := fun S => rg_two 12 18 (by omega) (by omega) S
  have p9 : ∀ S, powO (.p (.int 10)) (.p (.int 9)) S = some (.p (.int 1000000000), S) := fun S => powO_int ⟨by decide, by decide, by decide⟩
  have p12 : ∀ S, powO (.p (.int 10)) (.p (.int 12)) S = some (.p (.int 1000000000000), S) := fun S => powO_int ⟨by decide, by decide, by decide⟩
  have l5 : forGo _ _ _ (dit [.int (d1 - 100), .int (1000000000000 + d2), .int 0]) _ _ = _ := l5
  have l3 : forGo _ _ _ (rangeI 0 18) _ _ = _ := l3
  have l4 : forGo _ _ _ (rangeI 12 6) _ _ = _ := l4
  have l1 : forGo _ _ _ (dit [.tup (w.map PV.int), PV.tup [.int 0], .tup (List.replicate 40 (.int 0)), .tup (List.replicate 21 (.int 0) ++ List.replicate 19 (.int 1)), .tup [.int 1, .int 0, .int 0]]) _ _ = _ := l1
  simp only [tupI] at t1 l1 l2 l3 l4 l5
  simp only [dit_cons, dit_nil] at l1 l5
  obtain ⟨g3, h3, rfl⟩ := hc5
  have i0 : ∀ S, ixO (.p (.lst (noRings w))) (.p (.int v)) S = some (.p bad, S) := fun S => ixO_lst eb
  have i1 : ∀ S, ixO (.p (.lst [PV.int 0, .int (-1), .int 1001, .bl true, .non, .str "1", .tup [.int 1], .int 1000000000])) (.p (.int r)) S = some (.p room, S) := fun S => ixO_lst er
  simp [-List.reduceReplicate, show List.replicate 8 (none : Option DV) = [none, none, none, none, none, none, none, none] from rfl, -List.flatten_replicate_singleton, -List.append_assoc, d_law, b_law_, t0, t1, m40, m21, m41, m19, m20, mw, m01, a19, a20, aw, s1, s2, lf, ln, rg, rg2, p9, p12, l1, l2, l3, l4, l5, t2, t3, t4, t5, i0, i1]
end DL
namespace DL
open PySem PySem.Spec PyProof.Rows L2
theorem law_mk {l : PySem.W.OpenLaw} {w : World} {K : PySem.W.Frag} {mg : Str → Option Value} {fa : Addr} (T : Txt K mg) (hfa : mg "law" = some (.ref fa)) (bl : ∀ (s : Shared) (v : Value), BindsTo s T.d_law ⟨[v], []⟩ [("script", v)]) :
    ∃ fd : FuncData, (∀ (s : Shared) (v : Value), BindsTo s fd ⟨[v], []⟩ [("script", v)]) ∧ ∀ base : Heap, FnOk l.prog w K mg base (L2.CX l.prog w) 13 fa fd ["script"] (spLawD K) := by
  have e := hfa.symm.trans T.m_law
  cases e
  exact ⟨T.d_law, bl, fun base => (ok_law T).imp fun vs H Q E h => law_end law_true h⟩
end DL
open PySem PySem.W PyProof.Rows
set_option maxRecDepth 100000 in
set_option maxHeartbeats 0 in
theorem PySem.Challenge.cw_carrierroads_k60_rings_recognized_holds : PySem.Challenge.rw_carrierroads_k60_rings_recognized.Holds := by
  w_on; o_law; k_head; (case hw => w_witness2)
  k_fill
  refine DL.walkD (l := PySem.Challenge.rw_carrierroads_k60_rings_recognized) (k := 13) rfl rfl ⟨rfl, by decide, by decide⟩ (fun w h Y => PySem.W.kIn_of Y) ?F
  case F =>
    intro w mg fa h KX G hmg
    refine' DL.law_mk (DL.txt_mk KX G ?a1_is_integer ?l1_is_integer ?c1_is_integer ?k1_is_integer ?a1_is_ring ?l1_is_ring ?c1_is_ring ?k1_is_ring ?a1_check_ring ?l1_check_ring ?c1_check_ring ?k1_check_ring ?a1_turned_ring ?l1_turned_ring ?c1_turned_ring ?k1_turned_ring ?a1_law_state ?l1_law_state ?c1_law_state ?k1_law_state ?a1_law_odd ?l1_law_odd ?c1_law_odd ?k1_law_odd ?a1_law_honest ?l1_law_honest ?c1_law_honest ?k1_law_honest ?a1_law_take ?l1_law_take ?c1_law_take ?k1_law_take ?a1_law_ring ?l1_law_ring ?c1_law_ring ?k1_law_ring ?a1_law_turned ?l1_law_turned ?c1_law_turned ?k1_law_turned ?a1_gone_round ?l1_gone_round ?c1_gone_round ?k1_gone_round ?a1_is_room ?l1_is_room ?c1_is_room ?k1_is_room ?a1_check_carrier ?l1_check_carrier ?c1_check_carrier ?k1_check_carrier ?a1_carried_ring ?l1_carried_ring ?c1_carried_ring ?k1_carried_ring ?a1_carried_ring_back ?l1_carried_ring_back ?c1_carried_ring_back ?k1_carried_ring_back ?a1_is_high ?l1_is_high ?c1_is_high ?k1_is_high ?a1_least_turn ?l1_least_turn ?c1_least_turn ?k1_least_turn ?a1_high_strings ?l1_high_strings ?c1_high_strings ?k1_high_strings ?a1_shape_of_ring ?l1_shape_of_ring ?c1_shape_of_ring ?k1_shape_of_ring ?a1_angles ?l1_angles ?c1_angles ?k1_angles ?a1_turnings ?l1_turnings ?c1_turnings ?k1_turnings ?a1_gaps_by_length ?l1_gaps_by_length ?c1_gaps_by_length ?k1_gaps_by_length ?a1_road_name ?l1_road_name ?c1_road_name ?k1_road_name ?a1_table_of ?l1_table_of ?c1_table_of ?k1_table_of ?a1_road_table ?l1_road_table ?c1_road_table ?k1_road_table ?a1_determinant ?l1_determinant ?c1_determinant ?k1_determinant ?a1_road_size ?l1_road_size ?c1_road_size ?k1_road_size ?a1_divisors ?l1_divisors ?c1_divisors ?k1_divisors ?a1_road_divisors ?l1_road_divisors ?c1_road_divisors ?k1_road_divisors ?a1_slid ?l1_slid ?c1_slid ?k1_slid ?a1_difference ?l1_difference ?c1_difference ?k1_difference ?a1_told_runs ?l1_told_runs ?c1_told_runs ?k1_told_runs ?a1_joint_road ?l1_joint_road ?c1_joint_road ?k1_joint_road ?a1_order_modulo ?l1_order_modulo ?c1_order_modulo ?k1_order_modulo ?a1_run_row ?l1_run_row ?c1_run_row ?k1_run_row ?a1_period ?l1_period ?c1_period ?k1_period ?a1_solve ?l1_solve ?c1_solve ?k1_solve ?a1_one_carrier ?l1_one_carrier ?c1_one_carrier ?k1_one_carrier ?a1_ring_of ?l1_ring_of ?c1_ring_of ?k1_ring_of ?a1_far_around ?l1_far_around ?c1_far_around ?k1_far_around ?a1_law_call ?l1_law_call ?c1_law_call ?k1_law_call ?a1_law_refused ?l1_law_refused ?c1_law_refused ?k1_law_refused ?a1_law ?l1_law ?c1_law ?k1_law ?z1_abs ?z1_all ?z1_bool ?z1_int ?z1_isinstance ?z1_len ?z1_list ?z1_min ?z1_range ?z1_sum ?z1_tuple ?c2_MOST_CARRIER ?c2_MOST_LENGTH ?c2_MOST_RUNS ?e1_Malformed ?e2_Malformed ?e3_Malformed ?e4_Malformed ?e5_Malformed ?e6_Malformed ?e7_Malformed) hmg (fun s v => .of_eq rfl)
    (case a1_is_integer => k_is)
    (case l1_is_integer => k_is)
    (case c1_is_integer => k_is)
    (case k1_is_integer => k_is)
    (case a1_is_ring => k_is)
    (case l1_is_ring => k_is)
    (case c1_is_ring => k_is)
    (case k1_is_ring => k_is)
    (case a1_check_ring => k_is)
    (case l1_check_ring => k_is)
    (case c1_check_ring => k_is)
    (case k1_check_ring => k_is)
    (case a1_turned_ring => k_is)
    (case l1_turned_ring => k_is)
    (case c1_turned_ring => k_is)
    (case k1_turned_ring => k_is)
    (case a1_law_state => k_is)
    (case l1_law_state => k_is)
    (case c1_law_state => k_is)
    (case k1_law_state => k_is)
    (case a1_law_odd => k_is)
    (case l1_law_odd => k_is)
    (case c1_law_odd => k_is)
    (case k1_law_odd => k_is)
    (case a1_law_honest => k_is)
    (case l1_law_honest => k_is)
    (case c1_law_honest => k_is)
    (case k1_law_honest => k_is)
    (case a1_law_take => k_is)
    (case l1_law_take => k_is)
    (case c1_law_take => k_is)
    (case k1_law_take => k_is)
    (case a1_law_ring => k_is)
    (case l1_law_ring => k_is)
    (case c1_law_ring => k_is)
    (case k1_law_ring => k_is)
    (case a1_law_turned => k_is)
    (case l1_law_turned => k_is)
    (case c1_law_turned => k_is)
    (case k1_law_turned => k_is)
    (case a1_gone_round => k_is)
    (case l1_gone_round => k_is)
    (case c1_gone_round => k_is)
    (case k1_gone_round => k_is)
    (case a1_is_room => k_is)
    (case l1_is_room => k_is)
    (case c1_is_room => k_is)
    (case k1_is_room => k_is)
    (case a1_check_carrier => k_is)
    (case l1_check_carrier => k_is)
    (case c1_check_carrier => k_is)
    (case k1_check_carrier => k_is)
    (case a1_carried_ring => k_is)
    (case l1_carried_ring => k_is)
    (case c1_carried_ring => k_is)
    (case k1_carried_ring => k_is)
    (case a1_carried_ring_back => k_is)
    (case l1_carried_ring_back => k_is)
    (case c1_carried_ring_back => k_is)
    (case k1_carried_ring_back => k_is)
    (case a1_is_high => k_is)
    (case l1_is_high => k_is)
    (case c1_is_high => k_is)
    (case k1_is_high => k_is)
    (case a1_least_turn => k_is)
    (case l1_least_turn => k_is)
    (case c1_least_turn => k_is)
    (case k1_least_turn => k_is)
    (case a1_high_strings => k_is)
    (case l1_high_strings => k_is)
    (case c1_high_strings => k_is)
    (case k1_high_strings => k_is)
    (case a1_shape_of_ring => k_is)
    (case l1_shape_of_ring => k_is)
    (case c1_shape_of_ring => k_is)
    (case k1_shape_of_ring => k_is)
    (case a1_angles => k_is)
    (case l1_angles => k_is)
    (case c1_angles => k_is)
    (case k1_angles => k_is)
    (case a1_turnings => k_is)
    (case l1_turnings => k_is)
    (case c1_turnings => k_is)
    (case k1_turnings => k_is)
    (case a1_gaps_by_length => k_is)
    (case l1_gaps_by_length => k_is)
    (case c1_gaps_by_length => k_is)
    (case k1_gaps_by_length => k_is)
    (case a1_road_name => k_is)
    (case l1_road_name => k_is)
    (case c1_road_name => k_is)
    (case k1_road_name => k_is)
    (case a1_table_of => k_is)
    (case l1_table_of => k_is)
    (case c1_table_of => k_is)
    (case k1_table_of => k_is)
    (case a1_road_table => k_is)
    (case l1_road_table => k_is)
    (case c1_road_table => k_is)
    (case k1_road_table => k_is)
    (case a1_determinant => k_is)
    (case l1_determinant => k_is)
    (case c1_determinant => k_is)
    (case k1_determinant => k_is)
    (case a1_road_size => k_is)
    (case l1_road_size => k_is)
    (case c1_road_size => k_is)
    (case k1_road_size => k_is)
    (case a1_divisors => k_is)
    (case l1_divisors => k_is)
    (case c1_divisors => k_is)
    (case k1_divisors => k_is)
    (case a1_road_divisors => k_is)
    (case l1_road_divisors => k_is)
    (case c1_road_divisors => k_is)
    (case k1_road_divisors => k_is)
    (case a1_slid => k_is)
    (case l1_slid => k_is)
    (case c1_slid => k_is)
    (case k1_slid => k_is)
    (case a1_difference => k_is)
    (case l1_difference => k_is)
    (case c1_difference => k_is)
    (case k1_difference => k_is)
    (case a1_told_runs => k_is)
    (case l1_told_runs => k_is)
    (case c1_told_runs => k_is)
    (case k1_told_runs => k_is)
    (case a1_joint_road => k_is)
    (case l1_joint_road => k_is)
    (case c1_joint_road => k_is)
    (case k1_joint_road => k_is)
    (case a1_order_modulo => k_is)
    (case l1_order_modulo => k_is)
    (case c1_order_modulo => k_is)
    (case k1_order_modulo => k_is)
    (case a1_run_row => k_is)
    (case l1_run_row => k_is)
    (case c1_run_row => k_is)
    (case k1_run_row => k_is)
    (case a1_period => k_is)
    (case l1_period => k_is)
    (case c1_period => k_is)
    (case k1_period => k_is)
    (case a1_solve => k_is)
    (case l1_solve => k_is)
    (case c1_solve => k_is)
    (case k1_solve => k_is)
    (case a1_one_carrier => k_is)
    (case l1_one_carrier => k_is)
    (case c1_one_carrier => k_is)
    (case k1_one_carrier => k_is)
    (case a1_ring_of => k_is)
    (case l1_ring_of => k_is)
    (case c1_ring_of => k_is)
    (case k1_ring_of => k_is)
    (case a1_far_around => k_is)
    (case l1_far_around => k_is)
    (case c1_far_around => k_is)
    (case k1_far_around => k_is)
    (case a1_law_call => k_is)
    (case l1_law_call => k_is)
    (case c1_law_call => k_is)
    (case k1_law_call => k_is)
    (case a1_law_refused => k_is)
    (case l1_law_refused => k_is)
    (case c1_law_refused => k_is)
    (case k1_law_refused => k_is)
    (case a1_law => k_is)
    (case l1_law => k_is)
    (case c1_law => k_is)
    (case k1_law => k_is)
    (case z1_abs => k_is)
    (case z1_all => k_is)
    (case z1_bool => k_is)
    (case z1_int => k_is)
    (case z1_isinstance => k_is)
    (case z1_len => k_is)
    (case z1_list => k_is)
    (case z1_min => k_is)
    (case z1_range => k_is)
    (case z1_sum => k_is)
    (case z1_tuple => k_is)
    (case c2_MOST_CARRIER => k_is)
    (case c2_MOST_LENGTH => k_is)
    (case c2_MOST_RUNS => k_is)
    (case e1_Malformed => k_is)
    (case e2_Malformed => k_exc)
    (case e3_Malformed => k_is)
    (case e4_Malformed => k_is)
    (case e5_Malformed => k_is)
    (case e6_Malformed => k_is)
    (case e7_Malformed => k_is)
