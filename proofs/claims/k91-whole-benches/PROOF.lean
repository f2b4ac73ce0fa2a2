import PyProof.Rows.All
import Wide.All
import OpenK.AllK
import Wide.FinOn
import HandS.ForMost
import HandS.Star
import HandS.Zip
import HandS.TupLe
import HandS.TupAny
import HandS.IsInst
import HandS.Deep
import HandS.Property
import HandS.Walk
import KE.GoesEnum
import KE.SortData
import KE.KDictKeyed
import KE.KDictSum
import HandS.DictComp
import KE.GoesDict
import HandS.Iter
import PyProof.ReprRoads
import PyProof.ReprLen
import HandS.Conv
import HandS.Small
import PyProof.FitsInt
import PySem.Challenge.RW_rowsthatname_k91_whole_benches
set_option Elab.async false
set_option maxRecDepth 100000
set_option linter.all false
section
set_option maxHeartbeats 4000000
/-! Data: what a value stands for; stores of data; expressions, tests and blocks by the data they come to. -/
namespace Rn
open PySem L2

/-! ### a value stands for a datum -/
mutual
def Dq (H : Hp) : PyData → V → Prop
  | .none, v => v = V.non
  | .bool b, v => v = V.bl b
  | .int i, v => v = V.int i
  | .str x, v => v = V.str x
  | .list ds, v => ∃ a xs, v = V.ref a ∧ H a = some (.lst xs) ∧ DqAll H ds xs
  | .tuple ds, v => ∃ a xs, v = V.ref a ∧ H a = some (.tup xs) ∧ DqAll H ds xs
  | .dict _, _ => False
def DqAll (H : Hp) : List PyData → List V → Prop
  | [], vs => vs = []
  | d :: ds, vs => ∃ v r, vs = v :: r ∧ Dq H d v ∧ DqAll H ds r
end
/-- the tuples stay -/
def Tk (H H' : Hp) : Prop := ∀ a xs, H a = some (.tup xs) → H' a = some (.tup xs)
theorem Tk.of_same {H H' : Hp} (e : Same H H') : Tk H H' := fun a xs h => e a _ h
theorem Tk.trans {H H1 H2 : Hp} (a : Tk H H1) (b : Tk H1 H2) : Tk H H2 := fun c xs h => b c xs (a c xs h)
theorem Tk.refl (H : Hp) : Tk H H := fun _ _ h => h
/-! no list within -/
mutual
def noL : PyData → Bool
  | .none => true
  | .bool _ => true
  | .int _ => true
  | .str _ => true
  | .list _ => false
  | .tuple ds => noLs ds
  | .dict _ => false
def noLs : List PyData → Bool
  | [] => true
  | d :: ds => noL d && noLs ds
end
section
variable {H H' : Hp}
mutual
theorem Dq.mono (e : Same H H') : ∀ (d : PyData) (v : V), Dq H d v → Dq H' d v
  | .none, _, h => h
  | .bool _, _, h => h
  | .int _, _, h => h
  | .str _, _, h => h
  | .list ds, _, ⟨a, xs, h1, h2, h3⟩ => ⟨a, xs, h1, e a _ h2, DqAll.mono e ds xs h3⟩
  | .tuple ds, _, ⟨a, xs, h1, h2, h3⟩ => ⟨a, xs, h1, e a _ h2, DqAll.mono e ds xs h3⟩
  | .dict _, _, h => h
theorem DqAll.mono (e : Same H H') : ∀ (ds : List PyData) (vs : List V), DqAll H ds vs → DqAll H' ds vs
  | [], _, h => h
  | d :: ds, _, ⟨v, r, h1, h2, h3⟩ => ⟨v, r, h1, Dq.mono e d v h2, DqAll.mono e ds r h3⟩
end
mutual
theorem Dq.tk (e : Tk H H') : ∀ (d : PyData) (v : V), noL d = true → Dq H d v → Dq H' d v
  | .none, _, _, h => h
  | .bool _, _, _, h => h
  | .int _, _, _, h => h
  | .str _, _, _, h => h
  | .list _, _, n, _ => absurd n (by simp [noL])
  | .tuple ds, _, n, ⟨a, xs, h1, h2, h3⟩ => ⟨a, xs, h1, e a _ h2, DqAll.tk e ds xs (by simpa [noL] using n) h3⟩
  | .dict _, _, _, h => h
theorem DqAll.tk (e : Tk H H') : ∀ (ds : List PyData) (vs : List V), noLs ds = true → DqAll H ds vs → DqAll H' ds vs
  | [], _, _, h => h
  | d :: ds, _, n, ⟨v, r, h1, h2, h3⟩ => by
    have n' : noL d = true ∧ noLs ds = true := by simpa [noLs] using n
    exact ⟨v, r, h1, Dq.tk e d v n'.1 h2, DqAll.tk e ds r n'.2 h3⟩
end
mutual
theorem Dq.dp {K : PySem.W.Frag} : ∀ (d : PyData) (v : V), Dq H d v → Dp K H v d
  | .none, _, h => by cases h; exact .non
  | .bool _, _, h => by cases h; exact .bl _
  | .int _, _, h => by cases h; exact .int _
  | .str _, _, h => by cases h; exact .str _
  | .list ds, _, ⟨a, xs, h1, h2, h3⟩ => by cases h1; exact .lst (SqL.of h2) (DqAll.dp ds xs h3)
  | .tuple ds, _, ⟨a, xs, h1, h2, h3⟩ => by cases h1; exact .tup (SqT.of h2) (DqAll.dp ds xs h3)
  | .dict _, _, h => h.elim
theorem DqAll.dp {K : PySem.W.Frag} : ∀ (ds : List PyData) (vs : List V), DqAll H ds vs → DpAll K H vs ds
  | [], _, h => by cases h; exact .nil
  | d :: ds, _, ⟨v, r, h1, h2, h3⟩ => by cases h1; exact .cons (Dq.dp d v h2) (DqAll.dp ds r h3)
end
theorem DqAll.length : ∀ {ds : List PyData} {vs : List V}, DqAll H ds vs → vs.length = ds.length
  | [], _, h => by cases h; rfl
  | d :: ds, _, ⟨v, r, h1, h2, h3⟩ => by cases h1; simp [DqAll.length h3]
theorem DqAll.get : ∀ {ds : List PyData} {vs : List V} {i : Nat} {d : PyData}, DqAll H ds vs → ds[i]? = some d → ∃ v, vs[i]? = some v ∧ Dq H d v
  | [], _, _, _, _, e => by simp at e
  | _ :: _, _, 0, _, ⟨v, r, h1, h2, h3⟩, e => by cases h1; simp at e; subst e; exact ⟨v, rfl, h2⟩
  | _ :: ds, _, i + 1, d, ⟨v, r, h1, h2, h3⟩, e => by
    cases h1
    obtain ⟨u, h4, h5⟩ := DqAll.get (i := i) (d := d) h3 (by simpa using e)
    exact ⟨u, by simpa using h4, h5⟩
theorem DqAll.get_v {ds : List PyData} {vs : List V} {i : Nat} {v : V} (h : DqAll H ds vs) (e : vs[i]? = some v) : ∃ d, ds[i]? = some d ∧ Dq H d v := by
  have hl := h.length
  have hi : i < ds.length := by
    have := (List.getElem?_eq_some_iff.mp e).1
    omega
  obtain ⟨u, h1, h2⟩ := h.get (List.getElem?_eq_getElem hi)
  rw [e] at h1
  cases h1
  exact ⟨_, List.getElem?_eq_getElem hi, h2⟩
theorem DqAll.append : ∀ {ds es : List PyData} {vs ws : List V}, DqAll H ds vs → DqAll H es ws → DqAll H (ds ++ es) (vs ++ ws)
  | [], _, _, _, h, h' => by cases h; exact h'
  | d :: ds, _, _, _, ⟨v, r, h1, h2, h3⟩, h' => by cases h1; exact ⟨v, _, rfl, h2, DqAll.append h3 h'⟩
theorem DqAll.one {d : PyData} {v : V} (h : Dq H d v) : DqAll H [d] [v] := ⟨v, [], rfl, h, rfl⟩
theorem DqAll.nil : DqAll H [] [] := rfl
theorem DqAll.cons {d : PyData} {ds : List PyData} {v : V} {vs : List V} (h : Dq H d v) (t : DqAll H ds vs) : DqAll H (d :: ds) (v :: vs) := ⟨v, vs, rfl, h, t⟩
theorem DqAll.of_get : ∀ {ds : List PyData} {vs : List V}, vs.length = ds.length → (∀ (i : Nat) d v, ds[i]? = some d → vs[i]? = some v → Dq H d v) → DqAll H ds vs
  | [], [], _, _ => rfl
  | [], _ :: _, e, _ => by simp at e
  | _ :: _, [], e, _ => by simp at e
  | d :: ds, v :: vs, e, h => ⟨v, vs, rfl, h 0 d v rfl rfl, DqAll.of_get (by simpa using e) fun i d' v' h1 h2 => h (i + 1) d' v' (by simpa using h1) (by simpa using h2)⟩
theorem DqAll.drop : ∀ {ds : List PyData} {vs : List V} (n : Nat), DqAll H ds vs → DqAll H (ds.drop n) (vs.drop n)
  | _, _, 0, h => h
  | [], _, n + 1, h => by cases h; exact rfl
  | d :: ds, _, n + 1, ⟨v, r, h1, h2, h3⟩ => by cases h1; exact DqAll.drop n h3
theorem DqAll.take : ∀ {ds : List PyData} {vs : List V} (n : Nat), DqAll H ds vs → DqAll H (ds.take n) (vs.take n)
  | _, _, 0, h => rfl
  | [], _, n + 1, h => by cases h; exact rfl
  | d :: ds, _, n + 1, ⟨v, r, h1, h2, h3⟩ => by cases h1; exact ⟨v, _, rfl, h2, DqAll.take n h3⟩
theorem Same.new {p : Addr} {o : HO} (h : H p = none) : Same H (upd H p o) := fun a u e => by
  rw [upd_ne (ne_of_none e h)]
  exact e
/-- an object that was not there may change -/
theorem Same.mut {p : Addr} {o : HO} (e : Same H H') (h : H p = none) : Same H (upd H' p o) := fun a u ha => by
  rw [upd_ne (ne_of_none ha h)]
  exact e a u ha
end

/-! ### abstract values, stores -/
structure Ab where
  p : V → Hp → Prop
  mono : ∀ v H H', Same H H' → p v H → p v H'
def dA (d : PyData) : Ab := ⟨fun v H => Dq H d v, fun v _ _ e h => Dq.mono e d v h⟩
def vA (x : V) : Ab := ⟨fun v _ => v = x, fun _ _ _ _ h => h⟩
abbrev Sto := List (Option Ab)
def Hold (H : Hp) (S : Sto) (σ : St) : Prop := ∀ (i : Nat) (P : Ab), S[i]? = some (some P) → ∃ v, σ[i]? = some (some v) ∧ P.p v H
theorem Hold.mono {H H' : Hp} {S : Sto} {σ : St} (e : Same H H') (h : Hold H S σ) : Hold H' S σ := fun i P hi =>
  let ⟨v, h1, h2⟩ := h i P hi
  ⟨v, h1, P.mono v H H' e h2⟩
theorem Hold.set {H : Hp} {S : Sto} {σ : St} {j : Nat} {P : Ab} {v : V} (h : Hold H S σ) (hv : P.p v H) (hj : j < σ.length) : Hold H (S.set j (some P)) (σ.set j (some v)) := fun i R hi => by
  by_cases hij : j = i
  · subst hij
    have hl : j < S.length := by
      have := (List.getElem?_eq_some_iff.mp hi).1
      simpa using this
    rw [List.getElem?_set_self hl] at hi
    cases hi
    exact ⟨v, List.getElem?_set_self hj, hv⟩
  · rw [List.getElem?_set_ne hij] at hi ⊢
    exact h i R hi
/-- a slot that is stored and forgotten -/
theorem Hold.forget {H : Hp} {S : Sto} {σ : St} {j : Nat} {x : Option V} (h : Hold H S σ) (hS : S[j]? = some none ∨ S[j]? = none) : Hold H S (σ.set j x) := fun i R hi => by
  by_cases hij : j = i
  · subst hij
    rcases hS with q | q
    · rw [q] at hi; cases hi
    · rw [q] at hi; cases hi
  · rw [List.getElem?_set_ne hij]
    exact h i R hi
/-- fewer facts -/
inductive Wk : Sto → Sto → Prop
  | nil : Wk [] []
  | keep (a : Option Ab) {S S' : Sto} : Wk S S' → Wk (a :: S) (a :: S')
  | drop (a : Option Ab) {S S' : Sto} : Wk S S' → Wk (a :: S) (none :: S')
theorem Wk.get : ∀ {S S' : Sto}, Wk S S' → ∀ (i : Nat) (P : Ab), S'[i]? = some (some P) → S[i]? = some (some P)
  | _, _, .nil, _, _, h => h
  | _, _, .keep _ w, 0, _, h => h
  | _, _, .keep _ w, i + 1, P, h => Wk.get w i P h
  | _, _, .drop _ w, 0, _, h => by simp at h
  | _, _, .drop _ w, i + 1, P, h => Wk.get w i P h
theorem Hold.weak {H : Hp} {S S' : Sto} {σ : St} (w : Wk S S') (h : Hold H S σ) : Hold H S' σ := fun i P hi => h i P (w.get i P hi)
theorem Wk.refl : ∀ S : Sto, Wk S S
  | [] => .nil
  | a :: S => .keep a (Wk.refl S)

/-! ### expressions, tests, arguments -/
def Er (te : TE) (S : Sto) (P : Ab) : Prop := ∀ (σ : St) (H : Hp) (Q : VK), σ.length = S.length → Hold H S σ → (∀ v H', Same H H' → P.p v H' → Q v H') → te σ H Q
abbrev Ed (te : TE) (S : Sto) (d : PyData) : Prop := Er te S (dA d)
def Et (tt : TT) (S : Sto) (b : Bool) : Prop := ∀ (σ : St) (H : Hp) (Q : Bool → Hp → Prop), σ.length = S.length → Hold H S σ → (∀ H', Same H H' → Q b H') → tt σ H Q
def Ea (ta : TA) (S : Sto) (ds : List PyData) : Prop := ∀ (σ : St) (H : Hp) (Q : List V → Hp → Prop), σ.length = S.length → Hold H S σ → (∀ vs H', Same H H' → DqAll H' ds vs → Q vs H') → ta σ H Q
section
variable {S : Sto} {ta tb tc te : TE} {t u : TT} {P : Ab} {d a b : PyData}
theorem ed_var {i : Nat} (h : S[i]? = some (some P)) : Er (tVar i) S P := fun σ H Q _ hh k =>
  let ⟨v, h1, h2⟩ := hh i P h
  ⟨v, h1, k v H (Same.refl H) h2⟩
theorem ed_c {v : V} : Er (tC v) S (vA v) := fun σ H Q _ _ k => k v H (Same.refl H) rfl
theorem ed_int {i : Int} : Ed (tC (.int i)) S (.int i) := fun σ H Q _ _ k => k _ H (Same.refl H) rfl
theorem ed_bl {x : Bool} : Ed (tC (.bl x)) S (.bool x) := fun σ H Q _ _ k => k _ H (Same.refl H) rfl
theorem ed_is (h : Ed te S a) (e : a = b) : Ed te S b := e ▸ h
/-- two expressions, then an operation on values -/
theorem er_op {r : R2} {Pa Pb : Ab} (ha : Er ta S Pa) (hb : Er tb S Pb)
    (hr : ∀ x y H (Q : VK), Pa.p x H → Pb.p y H → (∀ v H', Same H H' → P.p v H' → Q v H') → r x y H Q) : Er (tOp r ta tb) S P := fun σ H Q hl hh k =>
  ha σ H _ hl hh fun x H1 e1 p1 => hb σ H1 _ hl (hh.mono e1) fun y H2 e2 p2 => hr x y H2 Q (Pa.mono _ _ _ e2 p1) p2 fun v H3 e3 p3 => k v H3 ((e1.trans e2).trans e3) p3
theorem ed_opI {g : Int → Int → Int} {i j : Int} (ha : Ed ta S (.int i)) (hb : Ed tb S (.int j)) : Ed (tOp (rI0 fun i j => .int (g i j)) ta tb) S (.int (g i j)) :=
  er_op ha hb fun x y H Q px py k => ⟨i, j, px, py, k _ H (Same.refl H) rfl⟩
theorem ed_opC {C : Int → Int → Prop} {g : Int → Int → Int} {i j : Int} (ha : Ed ta S (.int i)) (hb : Ed tb S (.int j)) (hc : C i j) : Ed (tOp (rI C fun i j => .int (g i j)) ta tb) S (.int (g i j)) :=
  er_op ha hb fun x y H Q px py k => ⟨i, j, px, py, hc, k _ H (Same.refl H) rfl⟩
theorem ed_opB {g : Int → Int → Bool} {i j : Int} (ha : Ed ta S (.int i)) (hb : Ed tb S (.int j)) : Ed (tOp (rI0 fun i j => .bl (g i j)) ta tb) S (.bool (g i j)) :=
  er_op ha hb fun x y H Q px py k => ⟨i, j, px, py, k _ H (Same.refl H) rfl⟩
/-- == and != of numbers and truth values -/
theorem ed_eqI {i j : Int} (ha : Ed ta S (.int i)) (hb : Ed tb S (.int j)) : Ed (tOp rEq ta tb) S (.bool (decide (i = j))) :=
  er_op ha hb fun x y H Q px py k => by
    cases px; cases py
    exact ⟨rfl, k _ H (Same.refl H) (by show V.bl (decide (V.int i = V.int j)) = _; congr 1; exact decide_eq_decide.mpr ⟨fun q => V.int.inj q, fun q => by rw [q]⟩)⟩
theorem ed_neI {i j : Int} (ha : Ed ta S (.int i)) (hb : Ed tb S (.int j)) : Ed (tOp rNe ta tb) S (.bool (!decide (i = j))) :=
  er_op ha hb fun x y H Q px py k => by
    cases px; cases py
    exact ⟨rfl, k _ H (Same.refl H) (by show V.bl (!decide (V.int i = V.int j)) = _; congr 2; exact decide_eq_decide.mpr ⟨fun q => V.int.inj q, fun q => by rw [q]⟩)⟩
theorem ed_eqB {i j : Bool} (ha : Ed ta S (.bool i)) (hb : Ed tb S (.bool j)) : Ed (tOp rEq ta tb) S (.bool (decide (i = j))) :=
  er_op ha hb fun x y H Q px py k => by
    cases px; cases py
    exact ⟨rfl, k _ H (Same.refl H) (by show V.bl (decide (V.bl i = V.bl j)) = _; congr 1; exact decide_eq_decide.mpr ⟨fun q => V.bl.inj q, fun q => by rw [q]⟩)⟩
/-- == and != of data -/
theorem ed_eqD {K : PySem.W.Frag} (ha : Ed ta S a) (hb : Ed tb S b) (sa : SeqAt.shaped a = true) (sb : SeqAt.shaped b = true) : Ed (tOp (rEqD K) ta tb) S (.bool (PyData.eqv a b)) :=
  er_op ha hb fun x y H Q px py k => ⟨a, b, Dq.dp a x px, Dq.dp b y py, sa, sb, k _ H (Same.refl H) rfl⟩
theorem ed_neD {K : PySem.W.Frag} (ha : Ed ta S a) (hb : Ed tb S b) (sa : SeqAt.shaped a = true) (sb : SeqAt.shaped b = true) : Ed (tOp (rNeD K) ta tb) S (.bool (!PyData.eqv a b)) :=
  er_op ha hb fun x y H Q px py k => ⟨a, b, Dq.dp a x px, Dq.dp b y py, sa, sb, k _ H (Same.refl H) rfl⟩
/-- subscripts of tuples and lists -/
theorem ed_ixT {K : PySem.W.Frag} {ds : List PyData} {i : Int} (ha : Ed ta S (.tuple ds)) (hb : Ed tb S (.int i)) (h : atI ds i = some d) : Ed (tOp (rIxT K) ta tb) S d :=
  er_op ha hb fun x y H Q px py k => by
    obtain ⟨p, xs, rfl, hp, hx⟩ := px
    cases py
    have hl := hx.length
    unfold atI at h
    cases hn : ixN ds.length i with
    | none => rw [hn] at h; cases h
    | some j =>
      rw [hn] at h
      obtain ⟨v, hv, dv⟩ := hx.get (show ds[j]? = some d from h)
      exact ⟨p, xs, i, v, rfl, rfl, SqT.of hp, by unfold atI; rw [hl, hn]; exact hv, k v H (Same.refl H) dv⟩
theorem ed_ixL {K : PySem.W.Frag} {ds : List PyData} {i : Int} (ha : Ed ta S (.list ds)) (hb : Ed tb S (.int i)) (h : atI ds i = some d) : Ed (tOp (rIxL K) ta tb) S d :=
  er_op ha hb fun x y H Q px py k => by
    obtain ⟨p, xs, rfl, hp, hx⟩ := px
    cases py
    have hl := hx.length
    unfold atI at h
    cases hn : ixN ds.length i with
    | none => rw [hn] at h; cases h
    | some j =>
      rw [hn] at h
      obtain ⟨v, hv, dv⟩ := hx.get (show ds[j]? = some d from h)
      exact ⟨p, xs, i, v, rfl, rfl, SqL.of hp, by unfold atI; rw [hl, hn]; exact hv, k v H (Same.refl H) dv⟩
/-- list + list: a new one -/
theorem ed_catL {ds es : List PyData} (ha : Ed ta S (.list ds)) (hb : Ed tb S (.list es)) (hz : ds.length + es.length ≤ sizeLine) : Ed (tOp rCat ta tb) S (.list (ds ++ es)) :=
  er_op ha hb fun x y H Q px py k => by
    obtain ⟨p, xs, rfl, hp, hx⟩ := px
    obtain ⟨q, ys, rfl, hq, hy⟩ := py
    refine ⟨p, q, xs, ys, rfl, rfl, hp, hq, by rw [hx.length, hy.length]; exact hz, fun r hr => k _ _ (Same.new hr) ⟨r, _, rfl, upd_same, ?_⟩⟩
    exact (DqAll.append hx hy).mono (Same.new hr)
/-- tuple + tuple -/
theorem ed_catT {K : PySem.W.Frag} {ds es : List PyData} (ha : Ed ta S (.tuple ds)) (hb : Ed tb S (.tuple es)) (hz : ds.length + es.length ≤ sizeLine) : Ed (tOp (rCatA K) ta tb) S (.tuple (ds ++ es)) :=
  er_op ha hb fun x y H Q px py k => by
    obtain ⟨p, xs, rfl, hp, hx⟩ := px
    obtain ⟨q, ys, rfl, hq, hy⟩ := py
    have both : DqAll H (ds ++ es) (xs ++ ys) := DqAll.append hx hy
    refine ⟨p, q, xs, ys, rfl, rfl, SqT.of hp, SqT.of hq, by rw [hx.length, hy.length]; exact hz, fun e => ?_, fun _ e => ?_, fun _ _ r hr => ?_⟩
    · subst e
      exact k _ H (Same.refl H) ⟨q, ys, rfl, hq, both⟩
    · subst e
      exact k _ H (Same.refl H) ⟨p, xs, rfl, hp, by simpa using both⟩
    · exact k _ _ (Same.new hr) ⟨r, _, rfl, upd_same, both.mono (Same.new hr)⟩

/-! tests -/
theorem et_B (h : Ed te S (.bool x)) : Et (tB te) S x := fun σ H Q hl hh k => h σ H _ hl hh fun v H1 e1 p => ⟨x, p, k H1 e1⟩
theorem et_test {x : Bool} (h : Ed te S (.bool x)) : Et (tTest te) S x := fun σ H Q hl hh k => h σ H _ hl hh fun v H1 e1 p => ⟨x, p, k H1 e1⟩
theorem et_not {x : Bool} (h : Et t S x) : Et (tNot t) S (!x) := fun σ H Q hl hh k => h σ H _ hl hh k
theorem et_is {x y : Bool} (h : Et t S x) (e : x = y) : Et t S y := e ▸ h
theorem et_and {x y : Bool} (h1 : Et t S x) (h2 : x = true → Et u S y) : Et (tAnd t u) S (x && y) := fun σ H Q hl hh k => h1 σ H _ hl hh fun H1 e1 => by
  cases x with
  | true => exact iteT (h2 rfl σ H1 Q hl (hh.mono e1) fun H2 e2 => k H2 (e1.trans e2))
  | false => exact iteF (k H1 e1)
theorem et_or {x y : Bool} (h1 : Et t S x) (h2 : x = false → Et u S y) : Et (tOr t u) S (x || y) := fun σ H Q hl hh k => h1 σ H _ hl hh fun H1 e1 => by
  cases x with
  | true => exact iteT (k H1 e1)
  | false => exact iteF (h2 rfl σ H1 Q hl (hh.mono e1) fun H2 e2 => k H2 (e1.trans e2))
theorem ed_andV {x y : Bool} (h1 : Ed ta S (.bool x)) (h2 : x = true → Ed tb S (.bool y)) : Ed (tAndV ta tb) S (.bool (x && y)) := fun σ H Q hl hh k => h1 σ H _ hl hh fun v H1 e1 p => by
  refine ⟨x, p, ?_⟩
  cases x with
  | true => exact iteT (h2 rfl σ H1 Q hl (hh.mono e1) fun w H2 e2 p2 => k w H2 (e1.trans e2) p2)
  | false => exact iteF (k _ H1 e1 rfl)
theorem ed_orV {x y : Bool} (h1 : Ed ta S (.bool x)) (h2 : x = false → Ed tb S (.bool y)) : Ed (tOrV ta tb) S (.bool (x || y)) := fun σ H Q hl hh k => h1 σ H _ hl hh fun v H1 e1 p => by
  refine ⟨x, p, ?_⟩
  cases x with
  | true => exact iteT (k _ H1 e1 rfl)
  | false => exact iteF (h2 rfl σ H1 Q hl (hh.mono e1) fun w H2 e2 p2 => k w H2 (e1.trans e2) p2)
theorem ed_notV {x : Bool} (h : Ed te S (.bool x)) : Ed (tNotV te) S (.bool (!x)) := fun σ H Q hl hh k => h σ H _ hl hh fun v H1 e1 p => ⟨x, p, k _ H1 e1 rfl⟩
theorem er_if {x : Bool} (h : Et t S x) (h1 : x = true → Er ta S P) (h2 : x = false → Er tb S P) : Er (tIf t ta tb) S P := fun σ H Q hl hh k => h σ H _ hl hh fun H1 e1 => by
  cases x with
  | true => exact iteT (h1 rfl σ H1 Q hl (hh.mono e1) fun w H2 e2 p2 => k w H2 (e1.trans e2) p2)
  | false => exact iteF (h2 rfl σ H1 Q hl (hh.mono e1) fun w H2 e2 p2 => k w H2 (e1.trans e2) p2)
/-- a op b op' c over ints -/
theorem ed_chain {g g' : Int → Int → Bool} {i j k : Int} (ha : Ed ta S (.int i)) (hb : Ed tb S (.int j)) (hc : Ed tc S (.int k)) : Ed (tChain (rI0 fun i j => .bl (g i j)) (rI0 fun i j => .bl (g' i j)) ta tb tc) S (.bool (g i j && g' j k)) := fun σ H Q hl hh kk =>
  ha σ H _ hl hh fun x H1 e1 p1 => hb σ H1 _ hl (hh.mono e1) fun y H2 e2 p2 => ⟨i, j, p1, p2, g i j, rfl, by
    cases hg : g i j with
    | true => exact iteT (hc σ H2 _ hl (hh.mono (e1.trans e2)) fun z H3 e3 p3 => ⟨j, k, p2, p3, kk _ H3 ((e1.trans e2).trans e3) (by rw [hg]; rfl)⟩)
    | false => exact iteF (kk _ H2 (e1.trans e2) (by rw [hg]; rfl))⟩

/-! argument lists, displays -/
variable {tr : TA} {ds es : List PyData}
theorem ea_nil : Ea tNil S [] := fun σ H Q _ _ k => k [] H (Same.refl H) rfl
theorem ea_cons (h : Ed te S d) (hr : Ea tr S ds) : Ea (tCons te tr) S (d :: ds) := fun σ H Q hl hh k =>
  h σ H _ hl hh fun v H1 e1 p1 => hr σ H1 _ hl (hh.mono e1) fun vs H2 e2 p2 => k (v :: vs) H2 (e1.trans e2) ⟨v, vs, rfl, Dq.mono e2 d v p1, p2⟩
theorem ea_starT {K : PySem.W.Frag} (h : Ed te S (.tuple ds)) (hr : Ea tr S es) : Ea (StX.tStar K te tr) S (ds ++ es) := fun σ H Q hl hh k =>
  h σ H _ hl hh fun v H1 e1 p1 => by
    obtain ⟨p, xs, rfl, hp, hx⟩ := p1
    exact ⟨p, xs, rfl, .inl (SqT.of hp), hr σ H1 _ hl (hh.mono e1) fun vs H2 e2 p2 => k _ H2 (e1.trans e2) (DqAll.append (hx.mono e2) p2)⟩
theorem ea_starL {K : PySem.W.Frag} (h : Ed te S (.list ds)) (hr : Ea tr S es) : Ea (StX.tStar K te tr) S (ds ++ es) := fun σ H Q hl hh k =>
  h σ H _ hl hh fun v H1 e1 p1 => by
    obtain ⟨p, xs, rfl, hp, hx⟩ := p1
    exact ⟨p, xs, rfl, .inr (SqL.of hp), hr σ H1 _ hl (hh.mono e1) fun vs H2 e2 p2 => k _ H2 (e1.trans e2) (DqAll.append (hx.mono e2) p2)⟩
theorem ed_tup (h : Ea tr S ds) (hz : ds.length ≤ sizeLine) : Ed (tTup tr) S (.tuple ds) := fun σ H Q hl hh k =>
  h σ H _ hl hh fun vs H1 e1 p1 => ⟨by rw [p1.length]; exact hz, fun p hp => k _ _ (Same.mut e1 (Same.free e1 hp)) ⟨p, vs, rfl, upd_same, p1.mono (Same.new hp)⟩⟩
theorem ed_lst (h : Ea tr S ds) (hz : ds.length ≤ sizeLine) : Ed (tLst tr) S (.list ds) := fun σ H Q hl hh k =>
  h σ H _ hl hh fun vs H1 e1 p1 => ⟨by rw [p1.length]; exact hz, fun p hp => k _ _ (Same.mut e1 (Same.free e1 hp)) ⟨p, vs, rfl, upd_same, p1.mono (Same.new hp)⟩⟩
/-! built-in calls -/
theorem er_cb {r : List V → Hp → VK → Prop} (h : Ea tr S ds) (hr : ∀ vs H (Q : VK), DqAll H ds vs → (∀ v H', Same H H' → P.p v H' → Q v H') → r vs H Q) : Er (tCB r tr) S P := fun σ H Q hl hh k =>
  h σ H _ hl hh fun vs H1 e1 p1 => hr vs H1 Q p1 fun v H2 e2 p2 => k v H2 (e1.trans e2) p2
end
end Rn
end
section
set_option maxHeartbeats 4000000
/-! Data, continued: calls of pure defs, slices, what is walked, comprehensions, statements, loops, the rule for a pure def. -/
namespace Rn
open PySem L2
section
variable {S : Sto} {ta tb tc te : TE} {t u : TT} {P : Ab} {d a b : PyData} {tr : TA} {ds es : List PyData}

/-! ### calls -/
/-- a pure def's promise: data in, an abstract value out, all that stood stands -/
def spA (R : List PyData → Ab → Prop) : Sp := fun vs H Q _ => ∃ ds P, R ds P ∧ DqAll H ds vs ∧ ∀ v H', Same H H' → P.p v H' → Q v H'
theorem er_call {R : List PyData → Ab → Prop} (h : Ea tr S ds) (hR : R ds P) : Er (tCall (spA R) [] E0 tr) S P := fun σ H Q hl hh k =>
  h σ H _ hl hh fun vs H1 e1 p1 => ⟨ds, P, hR, by rw [List.append_nil]; exact p1, fun v H2 e2 p2 => k v H2 (e1.trans e2) p2⟩

theorem bools_of : ∀ {bs : List Bool} {vs : List V} {H : Hp}, DqAll H (bs.map PyData.bool) vs → vs = bs.map V.bl
  | [], _, _, h => h
  | b :: bs, _, H, ⟨v, r, h1, h2, h3⟩ => by
    have e : v = V.bl b := h2
    rw [h1, e, bools_of h3]
    rfl
theorem ints_of : ∀ {ns : List Int} {vs : List V} {H : Hp}, DqAll H (ns.map PyData.int) vs → vs = ns.map V.int
  | [], _, _, h => h
  | b :: bs, _, H, ⟨v, r, h1, h2, h3⟩ => by
    have e : v = V.int b := h2
    rw [h1, e, ints_of h3]
    rfl
theorem one_of {H : Hp} {vs : List V} (h : DqAll H [d] vs) : ∃ v, vs = [v] ∧ Dq H d v := by
  obtain ⟨v, r, h1, h2, h3⟩ := h
  have e : r = [] := h3
  subst e
  exact ⟨v, h1, h2⟩
theorem two_of {H : Hp} {vs : List V} (h : DqAll H [a, b] vs) : ∃ v w, vs = [v, w] ∧ Dq H a v ∧ Dq H b w := by
  obtain ⟨v, r, h1, h2, h3⟩ := h
  obtain ⟨w, rfl, h4⟩ := one_of h3
  exact ⟨v, w, h1, h2, h4⟩
theorem ed_all {K : PySem.W.Frag} {bs : List Bool} (h : Ea tr S [.list (bs.map .bool)]) : Ed (tCB (rAll K) tr) S (.bool (bs.all id)) :=
  er_cb h fun vs H Q p k => by
    obtain ⟨v, rfl, q, xs, rfl, h1, h2⟩ := one_of p
    exact ⟨q, bs, rfl, SqL.of (by rw [h1, bools_of h2]), k _ H (Same.refl H) rfl⟩
theorem ed_any {K : PySem.W.Frag} {bs : List Bool} (h : Ea tr S [.list (bs.map .bool)]) : Ed (tCB (rAny K) tr) S (.bool (bs.any id)) :=
  er_cb h fun vs H Q p k => by
    obtain ⟨v, rfl, q, xs, rfl, h1, h2⟩ := one_of p
    exact ⟨q, bs, rfl, SqL.of (by rw [h1, bools_of h2]), k _ H (Same.refl H) rfl⟩
abbrev rLenQ (K : PySem.W.Frag) : List V → Hp → VK → Prop := fun xs H Q => ∃ p ys, xs = [.ref p] ∧ (SqL K H p ys ∨ SqT K H p ys) ∧ Q (.int ys.length) H
theorem ed_lenT {K : PySem.W.Frag} (h : Ea tr S [.tuple ds]) : Ed (tCB (rLenQ K) tr) S (.int ds.length) :=
  er_cb h fun vs H Q p k => by
    obtain ⟨v, rfl, q, xs, rfl, h1, h2⟩ := one_of p
    exact ⟨q, xs, rfl, .inr (SqT.of h1), k _ H (Same.refl H) (by rw [h2.length]; rfl)⟩
theorem ed_lenL {K : PySem.W.Frag} (h : Ea tr S [.list ds]) : Ed (tCB (rLenQ K) tr) S (.int ds.length) :=
  er_cb h fun vs H Q p k => by
    obtain ⟨v, rfl, q, xs, rfl, h1, h2⟩ := one_of p
    exact ⟨q, xs, rfl, .inl (SqL.of h1), k _ H (Same.refl H) (by rw [h2.length]; rfl)⟩
abbrev rMin2 : List V → Hp → VK → Prop := fun xs H Q => ∃ i j, xs = [.int i, .int j] ∧ Q (.int (if j < i then j else i)) H
theorem ed_min2 {i j : Int} (h : Ea tr S [.int i, .int j]) : Ed (tCB rMin2 tr) S (.int (min i j)) :=
  er_cb h fun vs H Q p k => by
    obtain ⟨v, w, rfl, rfl, rfl⟩ := two_of p
    refine ⟨i, j, rfl, k _ H (Same.refl H) ?_⟩
    show V.int (if j < i then j else i) = V.int (min i j)
    congr 1
    split <;> omega
abbrev rTupQ (K : PySem.W.Frag) : List V → Hp → VK → Prop := fun xs H Q => ∃ p ys, xs = [.ref p] ∧ ((SqL K H p ys ∧ ∀ l, H l = none → Q (.ref l) (upd H l (.tup ys))) ∨ (SqT K H p ys ∧ Q (.ref p) H))
theorem ed_tupOf {K : PySem.W.Frag} (h : Ea tr S [.list ds]) : Ed (tCB (rTupQ K) tr) S (.tuple ds) :=
  er_cb h fun vs H Q p k => by
    obtain ⟨v, rfl, q, xs, rfl, h1, h2⟩ := one_of p
    exact ⟨q, xs, rfl, .inl ⟨SqL.of h1, fun l hl => k _ _ (Same.new hl) ⟨l, xs, rfl, upd_same, h2.mono (Same.new hl)⟩⟩⟩
abbrev rInt1 : List V → Hp → VK → Prop := fun xs H Q => (∃ i, xs = [.int i] ∧ Q (.int i) H) ∨ ∃ k, xs = [.bl k] ∧ Q (.int (if k then 1 else 0)) H
theorem ed_int1 {i : Int} (h : Ea tr S [.int i]) : Ed (tCB rInt1 tr) S (.int i) :=
  er_cb h fun vs H Q p k => by
    obtain ⟨v, rfl, rfl⟩ := one_of p
    exact .inl ⟨i, rfl, k _ H (Same.refl H) rfl⟩
/-- isinstance(x, T), T a built-in class -/
def tyD : PyData → String
  | .none => "NoneType"
  | .bool _ => "bool"
  | .int _ => "int"
  | .str _ => "str"
  | .list _ => "list"
  | .tuple _ => "tuple"
  | .dict _ => "dict"
theorem ty_of {K : PySem.W.Frag} {H : Hp} : ∀ {d : PyData} {v : V}, Dq H d v → TyX K H v (.type (tyD d))
  | .none, _, h => by cases h; exact .base .non
  | .bool _, _, h => by cases h; exact .base (.bl _)
  | .int _, _, h => by cases h; exact .base (.int _)
  | .str _, _, h => by cases h; exact .base (.str _)
  | .list _, _, ⟨a, xs, h1, h2, _⟩ => by cases h1; exact .base (.lst h2)
  | .tuple _, _, ⟨a, xs, h1, h2, _⟩ => by cases h1; exact .base (.tup h2)
  | .dict _, _, h => h.elim
theorem ed_isi {K : PySem.W.Frag} {T : String} {x : Bool} (h : Ed te S d) (hk : PySem.W.kitOne K (.type (tyD d)) (.type T) = some x) : Ed (tCB (rIsi K) (tCons te (tCons (tC (.ty T)) tNil))) S (.bool x) := fun σ H Q hl hh k =>
  h σ H _ hl hh fun v H1 e1 p1 => ⟨v, .ty T, _, _, x, rfl, .ty T, ty_of p1, hk, k _ H1 e1 rfl⟩

/-! ### a new list -/
/-- it comes to a list that is new -/
def Ef (te : TE) (S : Sto) (ds : List PyData) : Prop := ∀ (σ : St) (H : Hp) (Q : VK), σ.length = S.length → Hold H S σ → (∀ p xs H', H p = none → Same H H' → H' p = some (.lst xs) → DqAll H' ds xs → Q (.ref p) H') → te σ H Q
theorem Ef.ed (h : Ef te S ds) : Ed te S (.list ds) := fun σ H Q hl hh k => h σ H Q hl hh fun p xs H' _ e h1 h2 => k _ H' e ⟨p, xs, rfl, h1, h2⟩
theorem ef_is (h : Ef te S ds) (e : ds = es) : Ef te S es := e ▸ h
theorem ef_lst (h : Ea tr S ds) (hz : ds.length ≤ sizeLine) : Ef (tLst tr) S ds := fun σ H Q hl hh k =>
  h σ H _ hl hh fun vs H1 e1 p1 => ⟨by rw [p1.length]; exact hz, fun p hp => k p vs _ (Same.free e1 hp) (Same.mut e1 (Same.free e1 hp)) upd_same (p1.mono (Same.new hp))⟩
theorem ef_catL (ha : Ed ta S (.list ds)) (hb : Ed tb S (.list es)) (hz : ds.length + es.length ≤ sizeLine) : Ef (tOp rCat ta tb) S (ds ++ es) := fun σ H Q hl hh k =>
  ha σ H _ hl hh fun x H1 e1 p1 => hb σ H1 _ hl (hh.mono e1) fun y H2 e2 p2 => by
    obtain ⟨p, xs, rfl, hp, hx⟩ := Dq.mono e2 _ _ p1
    obtain ⟨q, ys, rfl, hq, hy⟩ := p2
    refine ⟨p, q, xs, ys, rfl, rfl, hp, hq, by rw [hx.length, hy.length]; exact hz, fun r hr => k r _ _ (Same.free (e1.trans e2) hr) (Same.mut (e1.trans e2) (Same.free (e1.trans e2) hr)) upd_same ?_⟩
    exact (DqAll.append hx hy).mono (Same.new hr)
abbrev rLstQ (K : PySem.W.Frag) : List V → Hp → VK → Prop := fun xs H Q => ∃ p ys, xs = [.ref p] ∧ (SqL K H p ys ∨ SqT K H p ys) ∧ ∀ l, H l = none → Q (.ref l) (upd H l (.lst ys))
theorem ef_lstOf {K : PySem.W.Frag} (h : Ea tr S [.list ds]) : Ef (tCB (rLstQ K) tr) S ds := fun σ H Q hl hh k =>
  h σ H _ hl hh fun vs H1 e1 p1 => by
    obtain ⟨v, rfl, q, xs, rfl, h1, h2⟩ := one_of p1
    exact ⟨q, xs, rfl, .inl (SqL.of h1), fun l hl => k l xs _ (Same.free e1 hl) (Same.mut e1 (Same.free e1 hl)) upd_same (h2.mono (Same.new hl))⟩

/-! ### slices -/
def Eo (to : TO) (S : Sto) (o : Option Int) : Prop := ∀ (σ : St) (H : Hp) (Q : Option Int → Hp → Prop), σ.length = S.length → Hold H S σ → (∀ H', Same H H' → Q o H') → to σ H Q
theorem eo_none : Eo tNoPart S none := fun σ H Q _ _ k => k H (Same.refl H)
theorem eo_some {i : Int} (h : Ed te S (.int i)) : Eo (tPart te) S (some i) := fun σ H Q hl hh k => h σ H _ hl hh fun v H1 e1 p => ⟨i, p, k H1 e1⟩
def cutD (xs : List PyData) (lo hi : Option Int) : List PyData := (xs.drop (HT.sIx xs.length 0 lo)).take (HT.sIx xs.length xs.length hi - HT.sIx xs.length 0 lo)
theorem cut_of {H : Hp} {xs : List V} {lo hi : Option Int} (h : DqAll H ds xs) : DqAll H (cutD ds lo hi) (cutV xs lo hi) := by
  unfold cutD cutV
  rw [h.length]
  exact (h.drop _).take _
theorem ef_slL {K : PySem.W.Frag} {tl th : TO} {lo hi : Option Int} (h : Ed te S (.list ds)) (hlo : Eo tl S lo) (hhi : Eo th S hi) : Ef (tSl (rSlL K) te tl th) S (cutD ds lo hi) := fun σ H Q hl hh k =>
  h σ H _ hl hh fun v H1 e1 p1 => hlo σ H1 _ hl (hh.mono e1) fun H2 e2 => hhi σ H2 _ hl (hh.mono (e1.trans e2)) fun H3 e3 => by
    obtain ⟨a, xs, rfl, h1, h2⟩ := Dq.mono (e2.trans e3) _ _ p1
    exact ⟨a, xs, rfl, SqL.of h1, fun p hp => k p _ _ (Same.free ((e1.trans e2).trans e3) hp) (Same.mut ((e1.trans e2).trans e3) (Same.free ((e1.trans e2).trans e3) hp)) upd_same ((cut_of h2).mono (Same.new hp))⟩
theorem ed_slT {K : PySem.W.Frag} {tl th : TO} {lo hi : Option Int} (h : Ed te S (.tuple ds)) (hlo : Eo tl S lo) (hhi : Eo th S hi) : Ed (tSl (rSlA K) te tl th) S (.tuple (cutD ds lo hi)) := fun σ H Q hl hh k =>
  h σ H _ hl hh fun v H1 e1 p1 => hlo σ H1 _ hl (hh.mono e1) fun H2 e2 => hhi σ H2 _ hl (hh.mono (e1.trans e2)) fun H3 e3 => by
    obtain ⟨a, xs, rfl, h1, h2⟩ := Dq.mono (e2.trans e3) _ _ p1
    refine ⟨a, xs, rfl, SqT.of h1, fun e => k _ H3 ((e1.trans e2).trans e3) ⟨a, xs, rfl, h1, ?_⟩, fun _ p hp => k _ _ (Same.mut ((e1.trans e2).trans e3) (Same.free ((e1.trans e2).trans e3) hp)) ⟨p, _, rfl, upd_same, (cut_of h2).mono (Same.new hp)⟩⟩
    have q := cut_of (lo := lo) (hi := hi) h2
    have e' : cutV xs lo hi = xs := by
      unfold cutV
      rw [e.1, e.2]
      simp
    rw [e'] at q
    exact q

/-! ### what is walked -/
/-- the walk J gives ds from the heap H on -/
structure Val (J : It) (ds : List PyData) (H : Hp) : Prop where
  go : ∀ i, i < ds.length → J.go i H
  stop : J.stop ds.length H
  yld : ∀ i x H', i < ds.length → J.yld i H x H' → Same H H' ∧ ∃ d, ds[i]? = some d ∧ Dq H' d x
def Src (wi : TI) (S : Sto) (ds : List PyData) : Prop := ∀ (σ : St) (H : Hp) (R : It → Hp → Prop), σ.length = S.length → Hold H S σ → (∀ J H1, Same H H1 → (∀ H', Same H1 H' → Val J ds H') → R J H1) → wi σ H R
/-- the same while the list at l changes -/
def SrcI (wi : TI) (S : Sto) (ds : List PyData) : Prop := ∀ (σ : St) (H : Hp) (R : It → Hp → Prop) (l : Addr) (o : List V), σ.length = S.length → Hold H S σ → H l = some (.lst o) →
  (∀ J H1, Same H H1 → (∀ H', (∀ b u, b ≠ l → H1 b = some u → H' b = some u) → Val J ds H') → R J H1) → wi σ H R
theorem val_list {K : PySem.W.Frag} {H : Hp} {p : Addr} {xs : List V} (h : H p = some (.lst xs)) (hd : DqAll H ds xs) (uniq : ∀ ys, SqL K H p ys → ys = xs) : Val (Itl K p) ds H := by
  refine ⟨fun i hi => ?_, ⟨xs, SqL.of h, by rw [hd.length]; exact Nat.le_refl _⟩, fun i x H' hi ⟨e, y⟩ => ?_⟩
  · obtain ⟨v, hv, _⟩ := hd.get (List.getElem?_eq_getElem hi)
    exact ⟨xs, v, SqL.of h, hv⟩
  · subst e
    obtain ⟨d, h1, h2⟩ := hd.get_v (y xs (SqL.of h))
    exact ⟨Same.refl _, d, h1, h2⟩
theorem val_list' {K : PySem.W.Frag} {H : Hp} {p : Addr} {xs : List V} (h : H p = some (.lst xs)) (hd : DqAll H ds xs) : Val (Itl K p) ds H := by
  refine ⟨fun i hi => ?_, ⟨xs, SqL.of h, by rw [hd.length]; exact Nat.le_refl _⟩, fun i x H' hi ⟨e, y⟩ => ?_⟩
  · obtain ⟨v, hv, _⟩ := hd.get (List.getElem?_eq_getElem hi)
    exact ⟨xs, v, SqL.of h, hv⟩
  · subst e
    obtain ⟨d, h1, h2⟩ := hd.get_v (y xs (SqL.of h))
    exact ⟨Same.refl _, d, h1, h2⟩
theorem val_tup {K : PySem.W.Frag} {H : Hp} {p : Addr} {xs : List V} (h : H p = some (.tup xs)) (hd : DqAll H ds xs) : Val (Itt K p) ds H := by
  refine ⟨fun i hi => ?_, ⟨xs, SqT.of h, by rw [hd.length]; exact Nat.le_refl _⟩, fun i x H' hi ⟨e, y⟩ => ?_⟩
  · obtain ⟨v, hv, _⟩ := hd.get (List.getElem?_eq_getElem hi)
    exact ⟨xs, v, SqT.of h, hv⟩
  · subst e
    obtain ⟨d, h1, h2⟩ := hd.get_v (y xs (SqT.of h))
    exact ⟨Same.refl _, d, h1, h2⟩
theorem val_range {H : Hp} {n : Nat} : Val (Itr 0 n) ((List.range n).map fun i => PyData.int (i : Nat)) H := by
  refine ⟨fun i hi => ?_, ?_, fun i x H' hi ⟨e, y⟩ => ?_⟩
  · show i < n
    simpa using hi
  · show n ≤ _
    simp
  · subst e
    refine ⟨Same.refl _, PyData.int (i : Nat), ?_, ?_⟩
    · have hi' : i < n := by simpa using hi
      simp [List.getElem?_map, List.getElem?_range hi']
    · show x = _
      rw [y, Int.zero_add]
theorem src_list {K : PySem.W.Frag} (h : Ed te S (.list ds)) : Src (iList K te) S ds := fun σ H R hl hh k =>
  h σ H _ hl hh fun v H1 e1 p1 => by
    obtain ⟨p, xs, rfl, h1, h2⟩ := p1
    exact ⟨p, rfl, ⟨xs, SqL.of h1⟩, k _ H1 e1 fun H' e' => val_list' (e' _ _ h1) (h2.mono e')⟩
theorem src_tup {K : PySem.W.Frag} (h : Ed te S (.tuple ds)) : Src (iTup K te) S ds := fun σ H R hl hh k =>
  h σ H _ hl hh fun v H1 e1 p1 => by
    obtain ⟨p, xs, rfl, h1, h2⟩ := p1
    exact ⟨p, rfl, ⟨xs, SqT.of h1⟩, k _ H1 e1 fun H' e' => val_tup (e' _ _ h1) (h2.mono e')⟩
theorem src_range {n : Nat} (h : Ed te S (.int n)) (hn : n ≤ 1000000) : Src (iRng1 (tCons te tNil)) S ((List.range n).map fun i => .int (i : Nat)) := fun σ H R hl hh k =>
  h σ H _ hl hh fun v H1 e1 p1 => by
    cases p1
    exact ⟨n, rfl, by omega, by omega, k _ H1 e1 fun H' _ => by rw [Int.toNat_natCast]; exact val_range⟩
theorem srcI_range {n : Nat} (h : Ed te S (.int n)) (hn : n ≤ 1000000) : SrcI (iRng1 (tCons te tNil)) S ((List.range n).map fun i => .int (i : Nat)) := fun σ H R l o hl hh _ k =>
  h σ H _ hl hh fun v H1 e1 p1 => by
    cases p1
    exact ⟨n, rfl, by omega, by omega, k _ H1 e1 fun H' _ => by rw [Int.toNat_natCast]; exact val_range⟩
theorem srcI_list {K : PySem.W.Frag} (h : Ef te S ds) (hn : noLs ds = true) : SrcI (iList K te) S ds := fun σ H R l o hl hh hlo k =>
  h σ H _ hl hh fun p xs H1 hp e1 h1 h2 => by
    have hpl : p ≠ l := fun q => by rw [q, hlo] at hp; cases hp
    refine ⟨p, rfl, ⟨xs, SqL.of h1⟩, k _ H1 e1 fun H' e' => val_list' (e' _ _ hpl h1) (DqAll.tk (fun a ys ha => e' a _ (fun q => ?_) ha) _ _ hn h2)⟩
    have := e1 l _ hlo
    rw [q, this] at ha
    cases ha
/-- pairs of two walks -/
theorem src_zipL {K : PySem.W.Frag} (h : Ea tr S [.list ds, .list es]) (hl : ds.length = es.length) : Src (RZ.iZipA K tr) S ((ds.zip es).map fun p => .tuple [p.1, p.2]) := fun σ H R hlen hh k =>
  h σ H _ hlen hh fun vs H1 e1 p1 => by
    obtain ⟨v, w, rfl, ⟨a, xs, rfl, ha, hx⟩, ⟨b, ys, rfl, hb, hy⟩⟩ := two_of p1
    refine ⟨a, b, xs, ys, rfl, .inl ⟨SqL.of ha, SqL.of hb, k _ H1 e1 fun H' e' => ?_⟩⟩
    have lx := hx.length
    have ly := hy.length
    refine ⟨fun i hi => ?_, ⟨xs, ys, SqL.of (e' _ _ ha), SqL.of (e' _ _ hb), .inl (by simp; omega)⟩, fun i x H2 hi y => ?_⟩
    · have hi' : i < ds.length := by simp at hi; omega
      obtain ⟨x, hx1, _⟩ := hx.get (List.getElem?_eq_getElem hi')
      obtain ⟨y, hy1, _⟩ := hy.get (List.getElem?_eq_getElem (show i < es.length by omega))
      exact ⟨xs, ys, x, y, SqL.of (e' _ _ ha), SqL.of (e' _ _ hb), hx1, hy1⟩
    · obtain ⟨T, x1, y1, rfl, hT, rfl, q1, q2⟩ := y
      obtain ⟨d1, hd1, dq1⟩ := (hx.mono e').get_v (q1 xs (SqL.of (e' _ _ ha)))
      obtain ⟨d2, hd2, dq2⟩ := (hy.mono e').get_v (q2 ys (SqL.of (e' _ _ hb)))
      refine ⟨Same.new hT, .tuple [d1, d2], by simp [List.getElem?_zip_eq_some, hd1, hd2], T, [x1, y1], rfl, upd_same, ?_⟩
      exact .cons (Dq.mono (Same.new hT) _ _ dq1) (.one (Dq.mono (Same.new hT) _ _ dq2))
theorem src_zipT {K : PySem.W.Frag} (h : Ea tr S [.tuple ds, .tuple es]) : Src (RZ.iZipA K tr) S ((ds.zip es).map fun p => .tuple [p.1, p.2]) := fun σ H R hlen hh k =>
  h σ H _ hlen hh fun vs H1 e1 p1 => by
    obtain ⟨v, w, rfl, ⟨a, xs, rfl, ha, hx⟩, ⟨b, ys, rfl, hb, hy⟩⟩ := two_of p1
    refine ⟨a, b, xs, ys, rfl, .inr ⟨SqT.of ha, SqT.of hb, k _ H1 e1 fun H' e' => ?_⟩⟩
    have lx := hx.length
    have ly := hy.length
    refine ⟨fun i hi => ?_, ⟨xs, ys, SqT.of (e' _ _ ha), SqT.of (e' _ _ hb), by simp; omega⟩, fun i x H2 hi y => ?_⟩
    · simp at hi
      obtain ⟨x, hx1, _⟩ := hx.get (List.getElem?_eq_getElem (show i < ds.length by omega))
      obtain ⟨y, hy1, _⟩ := hy.get (List.getElem?_eq_getElem (show i < es.length by omega))
      exact ⟨xs, ys, x, y, SqT.of (e' _ _ ha), SqT.of (e' _ _ hb), hx1, hy1⟩
    · obtain ⟨T, x1, y1, rfl, hT, rfl, q1, q2⟩ := y
      obtain ⟨d1, hd1, dq1⟩ := (hx.mono e').get_v (q1 xs (SqT.of (e' _ _ ha)))
      obtain ⟨d2, hd2, dq2⟩ := (hy.mono e').get_v (q2 ys (SqT.of (e' _ _ hb)))
      refine ⟨Same.new hT, .tuple [d1, d2], by simp [List.getElem?_zip_eq_some, hd1, hd2], T, [x1, y1], rfl, upd_same, ?_⟩
      exact .cons (Dq.mono (Same.new hT) _ _ dq1) (.one (Dq.mono (Same.new hT) _ _ dq2))

/-! ### targets -/
def Tg (g : TG) (d : PyData) (S S' : Sto) (js : List Nat) : Prop := ∀ (v : V) (σ : St) (H : Hp) (Q : St → Hp → Prop), σ.length = S.length → Hold H S σ → Dq H d v →
  (∀ σ', σ'.length = S'.length → Hold H S' σ' → (noL d = true → ∀ H', Tk H H' → Hold H' S σ → Hold H' S' σ') → (∀ vs, (∀ j ∈ js, j ∈ vs) → wipe σ' vs = wipe σ vs) → Q σ' H) → g v σ H Q
theorem wipe_get (σ : St) (vs : List Nat) (i : Nat) : (wipe σ vs)[i]? = if i ∈ vs ∧ i < σ.length then some none else σ[i]? := by
  induction vs with
  | nil => simp [wipe]
  | cons v vs ih =>
    unfold wipe
    by_cases h : v = i
    · subst h
      by_cases hl : v < σ.length
      · rw [List.getElem?_set_self (by rw [wipe_length]; exact hl), if_pos ⟨by simp, hl⟩]
      · rw [List.getElem?_eq_none (by simp [wipe_length]; omega), if_neg (fun q => hl q.2), List.getElem?_eq_none (by omega)]
    · rw [List.getElem?_set_ne h, ih]
      have e : (i ∈ v :: vs ∧ i < σ.length) ↔ (i ∈ vs ∧ i < σ.length) := by
        simp only [List.mem_cons]
        constructor
        · rintro ⟨q | q, r⟩
          · exact absurd q.symm h
          · exact ⟨q, r⟩
        · rintro ⟨q, r⟩
          exact ⟨.inr q, r⟩
      simp only [e]
theorem wipe_set (σ : St) (vs : List Nat) {j : Nat} (x : Option V) (hj : j ∈ vs) : wipe (σ.set j x) vs = wipe σ vs := by
  apply List.ext_getElem?
  intro i
  rw [wipe_get, wipe_get, List.length_set]
  by_cases h : i ∈ vs ∧ i < σ.length
  · rw [if_pos h, if_pos h]
  · rw [if_neg h, if_neg h]
    by_cases e : j = i
    · subst e
      have hl : ¬ j < σ.length := fun q => h ⟨hj, q⟩
      rw [List.getElem?_eq_none (by simp; omega), List.getElem?_eq_none (by omega)]
    · rw [List.getElem?_set_ne e]
theorem wipe_wipe (σ : St) (vs : List Nat) : wipe (wipe σ vs) vs = wipe σ vs := by
  apply List.ext_getElem?
  intro i
  rw [wipe_get, wipe_length]
  by_cases h : i ∈ vs ∧ i < σ.length
  · rw [if_pos h, wipe_get, if_pos h]
  · rw [if_neg h]
def wipeS (S : Sto) : List Nat → Sto
  | [] => S
  | v :: vs => (wipeS S vs).set v none
theorem wipeS_length (S : Sto) : ∀ vs : List Nat, (wipeS S vs).length = S.length
  | [] => rfl
  | v :: vs => by unfold wipeS; rw [List.length_set, wipeS_length S vs]
theorem Hold.wipe {H : Hp} {σ : St} (h : Hold H S σ) : ∀ vs : List Nat, Hold H (wipeS S vs) (L2.wipe σ vs)
  | [] => h
  | v :: vs => fun i P hi => by
    unfold wipeS at hi
    unfold L2.wipe
    by_cases e : v = i
    · subst e
      by_cases hl : v < (wipeS S vs).length
      · rw [List.getElem?_set_self hl] at hi; cases hi
      · rw [List.getElem?_eq_none (by simpa using hl)] at hi; cases hi
    · rw [List.getElem?_set_ne e] at hi ⊢
      exact Hold.wipe h vs i P hi
theorem tg_name {j : Nat} (hj : j < S.length := by exact Nat.le_of_ble_eq_true rfl) : Tg (gName j) d S (S.set j (some (dA d))) [j] := fun v σ H Q hl hh hv k =>
  k _ (by simp [hl]) (hh.set (P := dA d) hv (by omega)) (fun n H' tk hh' => hh'.set (P := dA d) (Dq.tk tk d v n hv) (by omega)) fun vs h => wipe_set σ vs _ (h j (by simp))
theorem tg_pair {K : PySem.W.Frag} {i j : Nat} (hi : i < S.length := by exact Nat.le_of_ble_eq_true rfl) (hj : j < S.length := by exact Nat.le_of_ble_eq_true rfl) : Tg (gTup K 2 (gCons (gName i) (gCons (gName j) gNil))) (.tuple [a, b]) S ((S.set i (some (dA a))).set j (some (dA b))) [i, j] := fun v σ H Q hl hh hv k => by
  obtain ⟨p, xs, rfl, hp, hx⟩ := hv
  obtain ⟨x, y, rfl, hx1, hy1⟩ := two_of hx
  refine ⟨p, [x, y], rfl, SqT.of hp, rfl, x, [y], rfl, y, [], rfl, rfl, ?_⟩
  refine k _ (by simp [hl]) ((hh.set (P := dA a) hx1 (by omega)).set (P := dA b) hy1 (by simp; omega)) (fun n H' tk hh' => ?_) fun vs h => ?_
  · have n' : noL a = true ∧ noL b = true := by simpa [noL, noLs] using n
    exact (hh'.set (P := dA a) (Dq.tk tk a x n'.1 hx1) (by omega)).set (P := dA b) (Dq.tk tk b y n'.2 hy1) (by simp; omega)
  rw [wipe_set _ vs _ (h j (by simp)), wipe_set _ vs _ (h i (by simp))]

/-! ### comprehensions -/
theorem noLs_map {α : Type} {xs : List α} {h : α → PyData} (hn : ∀ x ∈ xs, noL (h x) = true) : noLs (xs.map h) = true := by
  induction xs with
  | nil => rfl
  | cons x xs ih =>
    show (noL (h x) && noLs (xs.map h)) = true
    rw [hn x (by simp), ih fun y hy => hn y (by simp [hy])]
    rfl
theorem ef_lc {α : Type} {wi : TI} {g : TG} {vs js : List Nat} (xs : List α) (enc : α → PyData) (f : α → Bool) (h : α → PyData) (Y : α → Sto) (hw : Src wi S (xs.map enc)) (hz : xs.length ≤ sizeLine) (hj : ∀ j ∈ js, j ∈ vs)
    (tg : ∀ x ∈ xs, Tg g (enc x) (wipeS S vs) (Y x) js) (ht : ∀ x ∈ xs, Et t (Y x) (f x)) (he : ∀ x ∈ xs, f x = true → Ed te (Y x) (h x)) (hn : ∀ x ∈ xs, noL (h x) = true) :
    Ef (tLc wi g t te vs) S ((xs.filter f).map h) := fun σ H Q hl hh k => hw σ H _ hl hh fun J H1 e1 val D hD => by
  have hnl : ∀ i, noLs (((xs.take i).filter f).map h) = true := fun i => noLs_map fun x hx => hn x (List.mem_of_mem_take (List.mem_filter.mp hx).1)
  refine ⟨fun i m H' => m = xs.length - i ∧ i ≤ xs.length ∧ ∃ acc, H' D = some (.lst acc) ∧ DqAll H' (((xs.take i).filter f).map h) acc ∧ Same H1 H', ⟨xs.length, by simp, Nat.zero_le _, [], upd_same, rfl, Same.new hD⟩, ?_⟩
  rintro i m H' ⟨rfl, hi, acc, hacc, dacc, e'⟩
  have V := val H' e'
  by_cases hlt : i < xs.length
  · refine .inr ⟨V.go i (by simpa using hlt), fun H2 => i + 1 ≤ xs.length ∧ ∃ acc, H2 D = some (.lst acc) ∧ DqAll H2 (((xs.take (i + 1)).filter f).map h) acc ∧ Same H1 H2, fun H2 q => ⟨xs.length - (i + 1), by omega, rfl, q⟩, fun x H2 y => ?_⟩
    obtain ⟨e2, d, hd, dx⟩ := V.yld i x H2 (by simpa using hlt) y
    have hxi : xs[i]? = some xs[i] := List.getElem?_eq_getElem hlt
    have hd' : d = enc xs[i] := by
      rw [List.getElem?_map, hxi] at hd
      exact (Option.some.inj hd).symm
    subst hd'
    have hmem : xs[i] ∈ xs := List.getElem_mem hlt
    have etk : xs.take (i + 1) = xs.take i ++ [xs[i]] := by rw [List.take_add_one, hxi]; rfl
    refine tg _ hmem x (wipe σ vs) H2 _ (by rw [wipe_length, wipeS_length, hl]) ((hh.wipe vs).mono ((e1.trans e').trans e2)) dx fun σ2 l2 h2 m2 w2 => ⟨(w2 vs hj).trans (wipe_wipe σ vs), ?_⟩
    refine ht _ hmem σ2 H2 _ l2 h2 fun H3 e3 => ?_
    have lacc : acc.length ≤ i := by
      rw [dacc.length, List.length_map]
      exact Nat.le_trans (List.length_filter_le _ _) (by rw [List.length_take]; omega)
    cases hf : f xs[i] with
    | true =>
      refine iteT (he _ hmem hf σ2 H3 _ l2 (h2.mono e3) fun v H4 e4 dv => ⟨acc, e4 _ _ (e3 _ _ (e2 _ _ hacc)), by omega, hlt, _, upd_same, ?_, Same.mut (((e'.trans e2).trans e3).trans e4) hD⟩)
      rw [etk, List.filter_append, List.map_append, List.filter_cons, if_pos hf]
      have tk : Tk H4 (upd H4 D (.lst (acc ++ [v]))) := fun a ys ha => by
        rw [upd_ne fun q => ?_]
        · exact ha
        · rw [q, e4 _ _ (e3 _ _ (e2 _ _ hacc))] at ha; cases ha
      refine DqAll.append (DqAll.tk tk _ _ (hnl i) (((dacc.mono e2).mono e3).mono e4)) (DqAll.one (Dq.tk tk _ _ (hn _ hmem) dv))
    | false =>
      refine iteF ⟨hlt, acc, e3 _ _ (e2 _ _ hacc), ?_, (e'.trans e2).trans e3⟩
      rw [etk, List.filter_append, List.map_append, List.filter_cons, if_neg (by rw [hf]; exact Bool.false_ne_true)]
      simpa using (dacc.mono e2).mono e3
  · have e : i = xs.length := by omega
    subst e
    refine .inl ⟨by have := V.stop; rw [List.length_map] at this; exact this, ?_⟩
    rw [List.take_length] at dacc
    exact k D acc H' (Same.free e1 hD) (e1.trans e') hacc dacc
theorem ef_lc2 {α β : Type} {wi wi1 : TI} {g g1 : TG} {vs vs1 js js1 : List Nat} (xs : List α) (enc : α → PyData) (ys : α → List β) (enc1 : β → PyData) (h : α → β → PyData) (Y : α → Sto) (Z : α → β → Sto) (hw : Src wi S (xs.map enc))
    (hj : ∀ j ∈ js, j ∈ vs) (hj1 : ∀ j ∈ js1, j ∈ vs1) (hx : ∀ x ∈ xs, noL (enc x) = true) (tg : ∀ x ∈ xs, Tg g (enc x) (wipeS S vs) (Y x) js) (hw1 : ∀ x ∈ xs, SrcI wi1 (Y x) ((ys x).map enc1)) (tg1 : ∀ x ∈ xs, ∀ y ∈ ys x, Tg g1 (enc1 y) (wipeS (Y x) vs1) (Z x y) js1)
    (he : ∀ x ∈ xs, ∀ y ∈ ys x, Ed te (Z x y) (h x y)) (hn : ∀ x ∈ xs, ∀ y ∈ ys x, noL (h x y) = true) (hz : (xs.flatMap fun x => (ys x).map (h x)).length ≤ sizeLine) :
    Ef (tLc2 wi g tYes wi1 g1 tYes te vs vs1) S (xs.flatMap fun x => (ys x).map (h x)) := fun σ H Q hl hh k => hw σ H _ hl hh fun J H1 e1 val D hD => by
  have hnl : ∀ i, noLs ((xs.take i).flatMap fun x => (ys x).map (h x)) = true := fun i => by
    have : ∀ zs : List α, (∀ x ∈ zs, x ∈ xs) → noLs (zs.flatMap fun x => (ys x).map (h x)) = true := by
      intro zs
      induction zs with
      | nil => intro _; rfl
      | cons z zs ih =>
        intro hm
        rw [List.flatMap_cons]
        have q1 : noLs ((ys z).map (h z)) = true := noLs_map fun y hy => hn z (hm z (by simp)) y hy
        have q2 := ih fun x hx => hm x (by simp [hx])
        clear ih
        generalize (ys z).map (h z) = as at q1
        induction as with
        | nil => exact q2
        | cons a as iha =>
          have q1' : noL a = true ∧ noLs as = true := by simpa [noLs] using q1
          show (noL a && noLs (as ++ _)) = true
          rw [q1'.1, iha q1'.2]
          rfl
    exact this _ fun x hx => List.mem_of_mem_take hx
  refine ⟨fun i m H' => m = xs.length - i ∧ i ≤ xs.length ∧ ∃ acc, H' D = some (.lst acc) ∧ DqAll H' ((xs.take i).flatMap fun x => (ys x).map (h x)) acc ∧ Same H1 H', ⟨xs.length, by simp, Nat.zero_le _, [], upd_same, rfl, Same.new hD⟩, ?_⟩
  rintro i m H' ⟨rfl, hi, acc, hacc, dacc, e'⟩
  have V := val H' e'
  by_cases hlt : i < xs.length
  · refine .inr ⟨V.go i (by simpa using hlt), fun H2 => i + 1 ≤ xs.length ∧ ∃ acc, H2 D = some (.lst acc) ∧ DqAll H2 ((xs.take (i + 1)).flatMap fun x => (ys x).map (h x)) acc ∧ Same H1 H2, fun H2 q => ⟨xs.length - (i + 1), by omega, rfl, q⟩, fun x H2 y => ?_⟩
    obtain ⟨e2, d, hd, dx⟩ := V.yld i x H2 (by simpa using hlt) y
    have hxi : xs[i]? = some xs[i] := List.getElem?_eq_getElem hlt
    have hd' : d = enc xs[i] := by
      rw [List.getElem?_map, hxi] at hd
      exact (Option.some.inj hd).symm
    subst hd'
    have hmem : xs[i] ∈ xs := List.getElem_mem hlt
    generalize hx0 : xs[i] = x0 at hmem dx hxi
    have etk : xs.take (i + 1) = xs.take i ++ [x0] := by rw [List.take_add_one, hxi]; rfl
    refine tg _ hmem x (wipe σ vs) H2 _ (by rw [wipe_length, wipeS_length, hl]) ((hh.wipe vs).mono ((e1.trans e').trans e2)) dx fun σ2 l2 h2 m2 w2 => ⟨(w2 vs hj).trans (wipe_wipe σ vs), ?_⟩
    simp only [tYes, if_true]
    refine hw1 _ hmem σ2 H2 _ D acc l2 h2 (e2 _ _ hacc) fun J1 H4 e4 val1 => ?_
    have hD4 : H4 D = some (.lst acc) := e4 _ _ (e2 _ _ hacc)
    refine ⟨fun j m H' => m = (ys x0).length - j ∧ j ≤ (ys x0).length ∧ ∃ acc, H' D = some (.lst acc) ∧ DqAll H' (((xs.take i).flatMap fun x => (ys x).map (h x)) ++ ((ys x0).take j).map (h x0)) acc ∧ Same H1 H' ∧ (∀ b u, b ≠ D → H4 b = some u → H' b = some u),
      ⟨(ys x0).length, by simp, Nat.zero_le _, acc, hD4, by simpa using (dacc.mono e2).mono e4, (e'.trans e2).trans e4, fun _ _ _ q => q⟩, ?_⟩
    rintro j m H5 ⟨rfl, hj5, acc5, hacc5, dacc5, e5, n5⟩
    have V1 := val1 H5 n5
    by_cases hlt1 : j < (ys x0).length
    · refine .inr ⟨V1.go j (by simpa using hlt1), fun H6 => j + 1 ≤ (ys x0).length ∧ ∃ acc, H6 D = some (.lst acc) ∧ DqAll H6 (((xs.take i).flatMap fun x => (ys x).map (h x)) ++ ((ys x0).take (j + 1)).map (h x0)) acc ∧ Same H1 H6 ∧ (∀ b u, b ≠ D → H4 b = some u → H6 b = some u), fun H6 q => ⟨(ys x0).length - (j + 1), by omega, rfl, q⟩, fun y H6 yy => ?_⟩
      obtain ⟨e6, dd, hdd, dy⟩ := V1.yld j y H6 (by simpa using hlt1) yy
      have hyj : (ys x0)[j]? = some (ys x0)[j] := List.getElem?_eq_getElem hlt1
      have hdd' : dd = enc1 (ys x0)[j] := by
        rw [List.getElem?_map, hyj] at hdd
        exact (Option.some.inj hdd).symm
      subst hdd'
      have hmem1 : (ys x0)[j] ∈ ys x0 := List.getElem_mem hlt1
      generalize hy0 : (ys x0)[j] = y0 at hmem1 dy hyj
      have etk1 : (ys x0).take (j + 1) = (ys x0).take j ++ [y0] := by rw [List.take_add_one, hyj]; rfl
      have tk0 : Tk H2 H5 := fun a zs ha => n5 a _ (fun q => by rw [q, e2 _ _ hacc] at ha; cases ha) (e4 _ _ ha)
      have h25 : Hold H5 (Y x0) σ2 := m2 (hx _ hmem) H5 tk0 ((hh.wipe vs).mono (e1.trans e5))
      refine tg1 _ hmem _ hmem1 y (wipe σ2 vs1) H6 _ (by rw [wipe_length, wipeS_length, l2]) ((h25.wipe vs1).mono e6) dy fun σ3 l3 h3 m3 w3 => ⟨(w3 vs1 hj1).trans (wipe_wipe σ2 vs1), ?_⟩
      refine he _ hmem _ hmem1 σ3 H6 _ l3 h3 fun v H7 e7 dv => ?_
      have hD7 : H7 D = some (.lst acc5) := e7 _ _ (e6 _ _ hacc5)
      have l5 : acc5.length < sizeLine := by
        have q1 := dacc5.length
        have e0 : xs = xs.take i ++ x0 :: xs.drop (i + 1) := by
          rw [← hx0, ← List.drop_eq_getElem_cons hlt, List.take_append_drop]
        have q2 : (xs.flatMap fun x => (ys x).map (h x)).length = ((xs.take i).flatMap fun x => (ys x).map (h x)).length + ((ys x0).length + ((xs.drop (i + 1)).flatMap fun x => (ys x).map (h x)).length) := by
          conv => lhs; rw [e0]
          rw [List.flatMap_append, List.flatMap_cons, List.length_append, List.length_append, List.length_map]
        rw [List.length_append, List.length_map, List.length_take] at q1
        omega
      refine ⟨acc5, hD7, l5, hlt1, _, upd_same, ?_, Same.mut ((e5.trans e6).trans e7) hD, fun b u hb q => by rw [upd_ne hb]; exact e7 _ _ (e6 _ _ (n5 b u hb q))⟩
      rw [etk1, List.map_append, ← List.append_assoc]
      have tk : Tk H7 (upd H7 D (.lst (acc5 ++ [v]))) := fun a zs ha => by
        rw [upd_ne fun q => ?_]
        · exact ha
        · rw [q, hD7] at ha; cases ha
      have hnl2 : noLs (((xs.take i).flatMap fun x => (ys x).map (h x)) ++ ((ys x0).take j).map (h x0)) = true := by
        have q1 := hnl i
        have q2 : noLs (((ys x0).take j).map (h x0)) = true := noLs_map fun y hy => hn _ hmem y (List.mem_of_mem_take hy)
        generalize ((xs.take i).flatMap fun x => (ys x).map (h x)) = as at q1
        clear dacc5 dacc
        induction as with
        | nil => exact q2
        | cons a as iha =>
          have q1' : noL a = true ∧ noLs as = true := by simpa [noLs] using q1
          show (noL a && noLs (as ++ _)) = true
          rw [q1'.1, iha q1'.2]
          rfl
      exact DqAll.append (DqAll.tk tk _ _ hnl2 ((dacc5.mono e6).mono e7)) (DqAll.one (Dq.tk tk _ _ (hn _ hmem _ hmem1) dv))
    · have e : j = (ys x0).length := by omega
      subst e
      refine .inl ⟨by have := V1.stop; rw [List.length_map] at this; exact this, hlt, acc5, hacc5, ?_, e5⟩
      rw [List.take_length] at dacc5
      rw [etk, List.flatMap_append]
      simpa using dacc5
  · have e : i = xs.length := by omega
    subst e
    refine .inl ⟨by have := V.stop; rw [List.length_map] at this; exact this, ?_⟩
    rw [List.take_length] at dacc
    exact k D acc H' (Same.free e1 hD) (e1.trans e') hacc dacc
end
end Rn
end
section
set_option maxHeartbeats 4000000
/-! Data, continued: statements, loops, the rule for a pure def. -/
namespace Rn
open PySem L2
section
variable {S S' S1 S2 : Sto} {te : TE} {tt : TT} {t u : TS} {P : Ab} {a b : PyData} {tr : TA}
theorem Wk.length : ∀ {S S' : Sto}, Wk S S' → S'.length = S.length
  | _, _, .nil => rfl
  | _, _, .keep _ w => by simp [Wk.length w]
  | _, _, .drop _ w => by simp [Wk.length w]
/-- it gives back P -/
def Rt (ts : TS) (S : Sto) (P : Ab) : Prop := ∀ (D : Ends) (σ : St) (H : Hp), σ.length = S.length → Hold H S σ → (∀ v H', Same H H' → P.p v H' → D.rt v H') → ts D σ H
/-- it goes on with S' -/
def Nx (ts : TS) (S S' : Sto) : Prop := ∀ (D : Ends) (σ : St) (H : Hp), σ.length = S.length → Hold H S σ → (∀ σ' H', σ'.length = S'.length → Same H H' → Hold H' S' σ' → D.nx σ' H') → ts D σ H
theorem rt_ret (h : Er te S P) : Rt (tRet te) S P := fun D σ H hl hh k => h σ H _ hl hh k
theorem rt_seq (h1 : Nx t S S1) (h2 : Rt u S1 P) : Rt (tSeq t u) S P := fun D σ H hl hh k =>
  h1 { D with nx := u D } σ H hl hh fun σ1 H1 l1 e1 hh1 => h2 D σ1 H1 l1 hh1 fun v H2 e2 p => k v H2 (e1.trans e2) p
theorem rt_first (h1 : Rt t S P) : Rt (tSeq t u) S P := fun D σ H hl hh k => h1 { D with nx := u D } σ H hl hh k
theorem nx_seq (h1 : Nx t S S1) (h2 : Nx u S1 S2) : Nx (tSeq t u) S S2 := fun D σ H hl hh k =>
  h1 { D with nx := u D } σ H hl hh fun σ1 H1 l1 e1 hh1 => h2 D σ1 H1 l1 hh1 fun σ2 H2 l2 e2 hh2 => k σ2 H2 l2 (e1.trans e2) hh2
theorem nx_next : Nx tNext S S := fun D σ H hl hh k => k σ H hl (Same.refl H) hh
theorem nx_weak (h : Nx t S S1) (w : Wk S1 S2) : Nx t S S2 := fun D σ H hl hh k => h D σ H hl hh fun σ1 H1 l1 e1 hh1 => k σ1 H1 (l1.trans w.length.symm) e1 (hh1.weak w)
theorem rt_weak (w : Wk S S1) (h : Rt t S1 P) : Rt t S P := fun D σ H hl hh k => h D σ H (hl.trans w.length.symm) (hh.weak w) k
theorem nx_is (h : Nx t S S1) (e : S1 = S2) : Nx t S S2 := e ▸ h
theorem nx_asg {i : Nat} (h : Er te S P) (hi : i < S.length := by exact Nat.le_of_ble_eq_true rfl) : Nx (tAsg te (gName i)) S (S.set i (some P)) := fun D σ H hl hh k =>
  h σ H _ hl hh fun v H1 e1 p => k _ H1 (by simp [hl]) e1 ((hh.mono e1).set p (by omega))
theorem nx_par {i j : Nat} (h : Ea tr S [a, b]) (hi : i < S.length := by exact Nat.le_of_ble_eq_true rfl) (hj : j < S.length := by exact Nat.le_of_ble_eq_true rfl) : Nx (tPar i j tr) S ((S.set i (some (dA a))).set j (some (dA b))) := fun D σ H hl hh k =>
  h σ H _ hl hh fun vs H1 e1 p => by
    obtain ⟨v, w, rfl, h1, h2⟩ := two_of p
    exact ⟨v, w, rfl, k _ H1 (by simp [hl]) e1 (((hh.mono e1).set (P := dA a) h1 (by omega)).set (P := dA b) h2 (by simp; omega))⟩
theorem nx_drop (h : Er te S P) : Nx (tDrop te) S S := fun D σ H hl hh k => h σ H _ hl hh fun v H1 e1 p => k σ H1 hl e1 (hh.mono e1)
theorem rt_if {x : Bool} (h : Et tt S x) (h1 : x = true → Rt t S P) (h2 : x = false → Rt u S P) : Rt (tIfS tt t u) S P := fun D σ H hl hh k => h σ H _ hl hh fun H1 e1 => by
  cases x with
  | true => exact iteT (h1 rfl D σ H1 hl (hh.mono e1) fun v H2 e2 p => k v H2 (e1.trans e2) p)
  | false => exact iteF (h2 rfl D σ H1 hl (hh.mono e1) fun v H2 e2 p => k v H2 (e1.trans e2) p)
theorem nx_if {x : Bool} (h : Et tt S x) (h1 : x = true → Nx t S S') (h2 : x = false → Nx u S S') : Nx (tIfS tt t u) S S' := fun D σ H hl hh k => h σ H _ hl hh fun H1 e1 => by
  cases x with
  | true => exact iteT (h1 rfl D σ H1 hl (hh.mono e1) fun σ2 H2 l2 e2 p => k σ2 H2 l2 (e1.trans e2) p)
  | false => exact iteF (h2 rfl D σ H1 hl (hh.mono e1) fun σ2 H2 l2 e2 p => k σ2 H2 l2 (e1.trans e2) p)
/-- an if whose test fails and that has no else: what is within is not asked -/
theorem nx_skip (h : Et tt S false) : Nx (tIfS tt t tNext) S S := nx_if h (fun e => nomatch e) fun _ => nx_next
/-- a for over data, by what holds behind each part of them -/
theorem nx_for {α : Type} {wi : TI} {g : TG} {js : List Nat} (xs : List α) (enc : α → PyData) (Z : List α → Sto) (Y : List α → α → Sto) (hw : Src wi S (xs.map enc)) (h0 : Wk S (Z []))
    (tg : ∀ pre x post, xs = pre ++ x :: post → Tg g (enc x) (Z pre) (Y pre x) js) (body : ∀ pre x post, xs = pre ++ x :: post → Nx t (Y pre x) (Z (pre ++ [x]))) (hZ : ∀ l, (Z l).length = S.length) : Nx (tFor wi g t) S (Z xs) := fun D σ H hl hh k =>
  hw σ H _ hl hh fun J H1 e1 val => by
    refine ⟨fun i m σ' H' => m = xs.length - i ∧ i ≤ xs.length ∧ σ'.length = (Z (xs.take i)).length ∧ Hold H' (Z (xs.take i)) σ' ∧ Same H1 H', ⟨xs.length, by simp, Nat.zero_le _, by rw [List.take_zero, hZ]; exact hl, by rw [List.take_zero]; exact (hh.mono e1).weak h0, Same.refl _⟩, ?_⟩
    rintro i m σ' H' ⟨rfl, hi, hl', hh', e'⟩
    have V := val H' e'
    by_cases hlt : i < xs.length
    · refine .inr ⟨V.go i (by simpa using hlt), fun σ2 H2 => i + 1 ≤ xs.length ∧ σ2.length = (Z (xs.take (i + 1))).length ∧ Hold H2 (Z (xs.take (i + 1))) σ2 ∧ Same H1 H2, fun σ2 H2 q => ⟨xs.length - (i + 1), by omega, rfl, q⟩, fun x H2 y => ?_⟩
      obtain ⟨e2, d, hd, dx⟩ := V.yld i x H2 (by simpa using hlt) y
      have hxi : xs[i]? = some xs[i] := List.getElem?_eq_getElem hlt
      have hd' : d = enc xs[i] := by
        rw [List.getElem?_map, hxi] at hd
        exact (Option.some.inj hd).symm
      subst hd'
      have etk : xs.take (i + 1) = xs.take i ++ [xs[i]] := by rw [List.take_add_one, hxi]; rfl
      have e0 : xs = xs.take i ++ xs[i] :: xs.drop (i + 1) := by rw [← List.drop_eq_getElem_cons hlt, List.take_append_drop]
      refine tg _ _ _ e0 x σ' H2 _ hl' (hh'.mono e2) dx fun σ2 l2 h2 _ _ => ?_
      refine body _ _ _ e0 _ σ2 H2 l2 h2 fun σ3 H3 l3 e3 h3 => ⟨hlt, by rw [etk]; exact l3, by rw [etk]; exact h3, (e'.trans e2).trans e3⟩
    · have e : i = xs.length := by omega
      subst e
      refine .inl ⟨by have := V.stop; rw [List.length_map] at this; exact this, ?_⟩
      rw [List.take_length] at hh' hl'
      exact k σ' H' hl' (e1.trans e') hh'

/-! ### a pure def -/
def startS (N : List Str) (ds : List PyData) : Sto := ds.map (fun d => some (dA d)) ++ List.replicate (N.length - ds.length) none
theorem hold_start {H : Hp} {N : List Str} {ds : List PyData} {vs : List V} (h : DqAll H ds vs) : Hold H (startS N ds) (L2.start N vs) := fun i P hi => by
  unfold startS at hi
  unfold L2.start
  by_cases hlt : i < ds.length
  · rw [List.getElem?_append_left (by simpa using hlt), List.getElem?_map, List.getElem?_eq_getElem hlt] at hi
    cases hi
    obtain ⟨v, hv, dv⟩ := h.get (List.getElem?_eq_getElem hlt)
    refine ⟨v, ?_, dv⟩
    rw [List.getElem?_append_left (by rw [List.length_map, h.length]; exact hlt), List.getElem?_map, hv]
    rfl
  · rw [List.getElem?_append_right (by simpa using hlt), List.getElem?_replicate] at hi
    split at hi <;> cases hi
theorem start_length {H : Hp} {N : List Str} {ds : List PyData} {vs : List V} (h : DqAll H ds vs) : (L2.start N vs).length = (startS N ds).length := by
  unfold L2.start startS
  simp [h.length]
end
section
variable {Pr : Program} {w : World} {K : PySem.W.Frag} {mg : Str → Option Value} {base : Heap}
theorem pure_fn {x qual : Str} {st : Stmt} {f : Addr} {fd : FuncData} {N ps : List Str} {k : Nat} {R : List PyData → Ab → Prop} (F : Fun K x qual st f fd) (S : FnScope N ps (defScope st)) (len : ∀ ds P, R ds P → ds.length = ps.length)
    (body : ∀ (cdv : Value) (A : Around) (outer : List Env) (s : Shared) (H : Hp) (E : XK), Room k (A.deeper (PyProof.Rows.envOfC qual (defScope st) s.heap.objs.size f cdv)) → ∀ ds P, R ds P →
      ∃ t, PSs (cxOf CX0 Pr w K mg base N qual (defScope st) f cdv A outer s H E).nox (defBody st) t ∧ Rt t (startS N ds) P) : FnOk Pr w K mg base CX0 (k + 1) f fd ps (spA R) := by
  refine F.ok S (fun vs H Q E h => ?_) (fun cdv A outer s H vs Q E hr h => ?_)
  · obtain ⟨ds, P, hR, hd, _⟩ := h
    rw [hd.length]
    exact len ds P hR
  · obtain ⟨ds, P, hR, hd, kk⟩ := h
    obtain ⟨t, ht, rt⟩ := body cdv A outer s H E hr ds P hR
    exact ⟨t, ht, rt _ _ H (start_length hd) (hold_start hd) kk⟩
end
end Rn
namespace Rn
open PySem L2
/-! ### a def that gives back a new list -/
def spF (R : List PyData → List PyData → Prop) : Sp := fun vs H Q _ => ∃ ds es, R ds es ∧ DqAll H ds vs ∧ ∀ p xs H', H p = none → Same H H' → H' p = some (.lst xs) → DqAll H' es xs → Q (.ref p) H'
theorem ef_call {R : List PyData → List PyData → Prop} {S : Sto} {tr : TA} {ds es : List PyData} (h : Ea tr S ds) (hR : R ds es) : Ef (tCall (spF R) [] E0 tr) S es := fun σ H Q hl hh k =>
  h σ H _ hl hh fun vs H1 e1 p1 => ⟨ds, es, hR, by rw [List.append_nil]; exact p1, fun p xs H2 hp e2 h1 h2 => k p xs H2 (Same.free e1 hp) (e1.trans e2) h1 h2⟩
/-- it gives back a new list -/
def Rf (ts : TS) (S : Sto) (es : List PyData) : Prop := ∀ (D : Ends) (σ : St) (H : Hp), σ.length = S.length → Hold H S σ → (∀ p xs H', H p = none → Same H H' → H' p = some (.lst xs) → DqAll H' es xs → D.rt (.ref p) H') → ts D σ H
section
variable {S S1 : Sto} {te : TE} {t u : TS} {es : List PyData}
theorem rf_ret (h : Ef te S es) : Rf (tRet te) S es := fun D σ H hl hh k => h σ H _ hl hh k
theorem rf_seq (h1 : Nx t S S1) (h2 : Rf u S1 es) : Rf (tSeq t u) S es := fun D σ H hl hh k =>
  h1 { D with nx := u D } σ H hl hh fun σ1 H1 l1 e1 hh1 => h2 D σ1 H1 l1 hh1 fun p xs H2 hp e2 h1 h2 => k p xs H2 (Same.free e1 hp) (e1.trans e2) h1 h2
end
theorem new_fn {Pr : Program} {w : World} {K : PySem.W.Frag} {mg : Str → Option Value} {base : Heap} {x qual : Str} {st : Stmt} {f : Addr} {fd : FuncData} {N ps : List Str} {k : Nat} {R : List PyData → List PyData → Prop} (F : Fun K x qual st f fd) (S : FnScope N ps (defScope st)) (len : ∀ ds es, R ds es → ds.length = ps.length)
    (body : ∀ (cdv : Value) (A : Around) (outer : List Env) (s : Shared) (H : Hp) (E : XK), Room k (A.deeper (PyProof.Rows.envOfC qual (defScope st) s.heap.objs.size f cdv)) → ∀ ds es, R ds es →
      ∃ t, PSs (cxOf CX0 Pr w K mg base N qual (defScope st) f cdv A outer s H E).nox (defBody st) t ∧ Rf t (startS N ds) es) : FnOk Pr w K mg base CX0 (k + 1) f fd ps (spF R) := by
  refine F.ok S (fun vs H Q E h => ?_) (fun cdv A outer s H vs Q E hr h => ?_)
  · obtain ⟨ds, es, hR, hd, _⟩ := h
    rw [hd.length]
    exact len ds es hR
  · obtain ⟨ds, es, hR, hd, kk⟩ := h
    obtain ⟨t, ht, rt⟩ := body cdv A outer s H E hr ds es hR
    exact ⟨t, ht, rt _ _ H (start_length hd) (hold_start hd) kk⟩
end Rn
end
section
set_option maxHeartbeats 4000000
/-! The text by places; what a def that may be called is; the built-in names; the data of this program. -/
namespace Rn
open PySem L2

def top (i : Nat) : Stmt := PySem.Challenge.pw_rowsthatname_k91_whole_benches.main.body.getD i (.Pass ⟨0, 0, 0, 0⟩)

/-- the def at st stands behind the top under its name -/
def Dn (K : PySem.W.Frag) (mg : Str → Option Value) (x : Str) (st : Stmt) (ps : List Str) : Prop := ∃ (f : Addr) (fd : FuncData), Fun K x x st f fd ∧ Binds K fd ps [] ∧ mg x = some (.ref f)
/-- it keeps its promise, called by its name -/
def Cal (P : Program) (w : World) (K : PySem.W.Frag) (mg : Str → Option Value) (base : Heap) (k : Nat) (x : Str) (ps : List Str) (sp : Sp) : Prop :=
  ∃ (f : Addr) (fd : FuncData), FnOk P w K mg base CX0 k f fd ps sp ∧ PySem.W.keepIn K (.ref f) = true ∧ Binds K fd ps [] ∧ mg x = some (.ref f)
section
variable {X : Cx} {k j : Nat} {ps : List Str} {sp : Sp} {x : Str} {p pos : Pos} {e : Expr} {es : List Expr} {t : TA}
theorem pe_cal (c : Cal X.prog X.w X.K X.mg X.base k x ps sp) (hr : Room j X.A) (ha : PA X (e :: es) t) (hkj : k ≤ j := by decide) (hg : Gl X x := by rfl) (hdb : (x == ("__debug__" : Str)) = false := by decide)
    (he : starEach (e :: es) X.env = (false, eval e X.env) :: starEach es X.env := by rfl) (hpl : (backTo pos (starEach es X.env)).any (·.1) = false := by rfl) :
    PE X (.Call (.Name x p) (e :: es) [] pos) (tCall sp [] E0 t) := by
  obtain ⟨f, fd, F, kp, b, m⟩ := c
  exact pe_call F (hr.mono hkj) hg m kp b .nil pass0 ha hdb he hpl
end
section
variable {P : Program} {w : World} {K : PySem.W.Frag} {mg : Str → Option Value} {base : Heap}
theorem pure_cal {x : Str} {st : Stmt} {N ps : List Str} {k : Nat} {R : List PyData → Ab → Prop} (D : Dn K mg x st ps) (S : FnScope N ps (defScope st)) (len : ∀ ds P, R ds P → ds.length = ps.length)
    (body : ∀ (f : Addr) (cdv : Value) (A : Around) (outer : List Env) (s : Shared) (H : Hp) (E : XK), Room k (A.deeper (PyProof.Rows.envOfC x (defScope st) s.heap.objs.size f cdv)) → ∀ ds Pb, R ds Pb →
      ∃ t, PSs (cxOf CX0 P w K mg base N x (defScope st) f cdv A outer s H E).nox (defBody st) t ∧ Rt t (startS N ds) Pb) : Cal P w K mg base (k + 1) x ps (spA R) := by
  obtain ⟨f, fd, F, b, m⟩ := D
  exact ⟨f, fd, pure_fn F S len (fun cdv A outer s H E hr ds Pb hR => body f cdv A outer s H E hr ds Pb hR), F.kp, b, m⟩
end

section
variable {P : Program} {w : World} {K : PySem.W.Frag} {mg : Str → Option Value} {base : Heap}
theorem new_cal {x : Str} {st : Stmt} {N ps : List Str} {k : Nat} {R : List PyData → List PyData → Prop} (D : Dn K mg x st ps) (S : FnScope N ps (defScope st)) (len : ∀ ds es, R ds es → ds.length = ps.length)
    (body : ∀ (f : Addr) (cdv : Value) (A : Around) (outer : List Env) (s : Shared) (H : Hp) (E : XK), Room k (A.deeper (PyProof.Rows.envOfC x (defScope st) s.heap.objs.size f cdv)) → ∀ ds es, R ds es →
      ∃ t, PSs (cxOf CX0 P w K mg base N x (defScope st) f cdv A outer s H E).nox (defBody st) t ∧ Rf t (startS N ds) es) : Cal P w K mg base (k + 1) x ps (spF R) := by
  obtain ⟨f, fd, F, b, m⟩ := D
  exact ⟨f, fd, new_fn F S len (fun cdv A outer s H E hr ds es hR => body f cdv A outer s H E hr ds es hR), F.kp, b, m⟩
end

/-- the built-in names that the text calls, and its constants -/
structure Tb (mg : Str → Option Value) : Prop where
  all : mg "all" = none
  any : mg "any" = none
  len : mg "len" = none
  isi : mg "isinstance" = none
  zip : mg "zip" = none
  range : mg "range" = none
  enum : mg "enumerate" = none
  tuple : mg "tuple" = none
  list : mg "list" = none
  sorted : mg "sorted" = none
  min : mg "min" = none
  int : mg "int" = none
  bool : mg "bool" = none
  repr : mg "repr" = none
  knobs : ∃ t, mg "MOST_KNOBS" = some (.int 5 t)
  least : ∃ t, mg "LEAST_VALUES" = some (.int 2 t)
  values : ∃ t, mg "MOST_VALUES" = some (.int 4 t)
  settings : ∃ t, mg "MOST_SETTINGS" = some (.int 3 t)
  barred : ∃ t, mg "MOST_BARRED" = some (.int 6 t)
  faults : ∃ t, mg "MOST_FAULTS" = some (.int 2000 t)
  once : ∃ t, mg "MOST_AT_ONCE" = some (.int 2 t)
  log : ∃ t, mg "MOST_LOG" = some (.int 40 t)
/-- a module's whole number -/
theorem pe_num {X : Cx} {x : Str} {i : Int} {pos : Pos} (hm : ∃ t, X.mg x = some (.int i t)) (hg : Gl X x := by rfl) (hd : (x == ("__debug__" : Str)) = false := by decide) : PE X (.Name x pos) (tC (.int i)) := by
  obtain ⟨t, hm⟩ := hm
  exact pe_glob hg hm ⟨t, rfl⟩ hd
/-- a pair of names as a target -/
theorem pg_two {X : Cx} {x y : Str} {px py pos : Pos} {kk : Nat} (i j : Nat) (hc : X.calm = true) (nd : X.N.Nodup) (hi : X.N[i]? = some x := by rfl) (hj : X.N[j]? = some y := by rfl) (lx : Loc X.env.scope x := by first | exact Or.inl rfl | exact Or.inr rfl) (ly : Loc X.env.scope y := by first | exact Or.inl rfl | exact Or.inr rfl)
    (fx : X.fn x = true ∨ X.env.scope.names.lookup x = some .local := by first | exact .inl rfl | exact .inr rfl) (fy : X.fn y = true ∨ X.env.scope.names.lookup y = some .local := by first | exact .inl rfl | exact .inr rfl) :
    PG X (.Tuple [.Name x px, .Name y py] kk pos) (gTup X.K 2 (gCons (gName i) (gCons (gName j) gNil))) :=
  pg_tup hc (pgs_cons (pg_name nd hi lx fx) (pgs_cons (pg_name nd hj ly fy) pgs_nil))
theorem pg_one {X : Cx} {x : Str} {pos : Pos} (i : Nat) (nd : X.N.Nodup) (hi : X.N[i]? = some x := by rfl) (lx : Loc X.env.scope x := by first | exact Or.inl rfl | exact Or.inr rfl)
    (fx : X.fn x = true ∨ X.env.scope.names.lookup x = some .local := by first | exact .inl rfl | exact .inr rfl) : PG X (.Name x pos) (gName i) := pg_name nd hi lx fx

/-! ### the kit's rules with the written part named (for blocks of comprehensions) -/
section
variable {X : Cx} {a b e : Expr} {ta tb te : TE} {t : TA} {p pos : Pos} {es : List Expr}
theorem w_ixT (K : PySem.W.Frag) (ha : PE X a ta) (hb : PE X b tb) (hK : X.K = K := by rfl) (hp : ∀ (v u : Value), subscripted b false v u = operate [v, u] (getItem v u) := by intros; rfl) : PE X (.Subscript a b pos) (tOp (rIxT K) ta tb) := by
  subst hK
  exact pe_ix ix_tup ha hb hp
theorem w_ixL (K : PySem.W.Frag) (ha : PE X a ta) (hb : PE X b tb) (hK : X.K = K := by rfl) (hp : ∀ (v u : Value), subscripted b false v u = operate [v, u] (getItem v u) := by intros; rfl) : PE X (.Subscript a b pos) (tOp (rIxL K) ta tb) := by
  subst hK
  exact pe_ix ix_list ha hb hp
theorem w_all (K : PySem.W.Frag) (hm : X.mg "all" = none) (ha : PA X [e] t) (hK : X.K = K := by rfl) (hc : X.calm = true := by rfl) (hg : Gl X "all" := by rfl) (he : starEach [e] X.env = (false, eval e X.env) :: starEach [] X.env := by rfl) :
    PE X (.Call (.Name "all" p) [e] [] pos) (tCB (rAll K) t) := by
  subst hK
  exact pe_callB (cr_all hc) hg hm PyProof.Rows.boot_all ha (he := he)
theorem w_any (K : PySem.W.Frag) (hm : X.mg "any" = none) (ha : PA X [e] t) (hK : X.K = K := by rfl) (hc : X.calm = true := by rfl) (hg : Gl X "any" := by rfl) (he : starEach [e] X.env = (false, eval e X.env) :: starEach [] X.env := by rfl) :
    PE X (.Call (.Name "any" p) [e] [] pos) (tCB (rAny K) t) := by
  subst hK
  exact pe_callB (cr_any hc) hg hm PyProof.Rows.boot_any ha (he := he)
theorem w_len (K : PySem.W.Frag) (hm : X.mg "len" = none) (ha : PA X [e] t) (hK : X.K = K := by rfl) (hg : Gl X "len" := by rfl) (he : starEach [e] X.env = (false, eval e X.env) :: starEach [] X.env := by rfl) :
    PE X (.Call (.Name "len" p) [e] [] pos) (tCB (rLenQ K) t) := by
  subst hK
  exact pe_callB call_len_seq hg hm PySem.boot_len ha (he := he)
theorem w_tuple (K : PySem.W.Frag) (hm : X.mg "tuple" = none) (ha : PA X [e] t) (hK : X.K = K := by rfl) (hg : Gl X "tuple" := by rfl) (he : starEach [e] X.env = (false, eval e X.env) :: starEach [] X.env := by rfl) :
    PE X (.Call (.Name "tuple" p) [e] [] pos) (tCB (rTupQ K) t) := by
  subst hK
  exact pe_callTy call_tuple_of hg hm PyProof.Rows.boot_tuple ha (he := he)
theorem w_list (K : PySem.W.Frag) (hm : X.mg "list" = none) (ha : PA X [e] t) (hK : X.K = K := by rfl) (hg : Gl X "list" := by rfl) (he : starEach [e] X.env = (false, eval e X.env) :: starEach [] X.env := by rfl) :
    PE X (.Call (.Name "list" p) [e] [] pos) (tCB (rLstQ K) t) := by
  subst hK
  exact pe_callTy call_list_of hg hm PyProof.Rows.boot_list ha (he := he)
theorem w_int (hm : X.mg "int" = none) (ha : PA X [e] t) (hg : Gl X "int" := by rfl) (he : starEach [e] X.env = (false, eval e X.env) :: starEach [] X.env := by rfl) :
    PE X (.Call (.Name "int" p) [e] [] pos) (tCB rInt1 t) := pe_callTy call_int1 hg hm PyProof.Rows.boot_int ha (he := he)
theorem w_min (hm : X.mg "min" = none) (ha : PA X [a, b] t) (hc : X.calm = true := by rfl) (hg : Gl X "min" := by rfl) (he : starEach [a, b] X.env = (false, eval a X.env) :: starEach [b] X.env := by rfl) (hp : (backTo pos (starEach [b] X.env)).any (·.1) = false := by rfl) :
    PE X (.Call (.Name "min" p) [a, b] [] pos) (tCB rMin2 t) := pe_callB (call_min2 hc) hg hm PyProof.Rows.boot_min ha (he := he) (hpl := hp)
theorem w_ty (T : String) {x : Str} (hm : X.mg x = none) (hv : bootBuiltins x = some (.type T)) (hg : Gl X x := by rfl) (hn : x ≠ "__name__" := by decide) (hd : (x == ("__debug__" : Str)) = false := by decide) : PE X (.Name x pos) (tC (.ty T)) := pe_bltn hg hm hv rfl hn hd
theorem w_isi (K : PySem.W.Frag) (hm : X.mg "isinstance" = none) (ha : PE X a ta) (hb : PE X b tb) (hK : X.K = K := by rfl) (hg : Gl X "isinstance" := by rfl) (h1 : starEach [a, b] X.env = (false, eval a X.env) :: starEach [b] X.env := by rfl) (h2 : starEach [b] X.env = (false, eval b X.env) :: starEach [] X.env := by rfl)
    (hp : (backTo pos (starEach [b] X.env)).any (·.1) = false := by rfl) : PE X (.Call (.Name "isinstance" p) [a, b] [] pos) (tCB (rIsi K) (tCons ta (tCons tb tNil))) := by
  subst hK
  exact pe_callB call_isi hg hm PyProof.Rows.boot_isinstance (pa_cons ha (pa_cons hb pa_nil h2) h1) (he := h1) (hpl := hp)
end

theorem k_int_int {K : PySem.W.Frag} : PySem.W.kitOne K (.type "int") (.type "int") = some true := kit_ty (by decide +kernel)
theorem k_int_bool {K : PySem.W.Frag} : PySem.W.kitOne K (.type "int") (.type "bool") = some false := kit_ty (by decide +kernel)
theorem k_bool_bool {K : PySem.W.Frag} : PySem.W.kitOne K (.type "bool") (.type "bool") = some true := kit_ty (by decide +kernel)
theorem k_tup_tup {K : PySem.W.Frag} : PySem.W.kitOne K (.type "tuple") (.type "tuple") = some true := kit_ty (by decide +kernel)

/-! ### readings of typed data -/
section
variable {S : Sto} {te : TE} {tr : TA}
theorem ef_lcA {α : Type} {wi : TI} {g : TG} {vs js : List Nat} (xs : List α) (enc : α → PyData) (h : α → PyData) (Y : α → Sto) (hw : Src wi S (xs.map enc)) (hz : xs.length ≤ sizeLine) (hj : ∀ j ∈ js, j ∈ vs)
    (tg : ∀ x ∈ xs, Tg g (enc x) (wipeS S vs) (Y x) js) (he : ∀ x ∈ xs, Ed te (Y x) (h x)) (hn : ∀ x ∈ xs, noL (h x) = true) : Ef (tLc wi g tYes te vs) S (xs.map h) := by
  have q := ef_lc (t := tYes) (vs := vs) xs enc (fun _ => true) h Y hw hz hj tg (fun x _ σ H Q _ _ k => k H (Same.refl H)) (fun x hx _ => he x hx) hn
  have e : xs.filter (fun _ => true) = xs := List.filter_eq_self.mpr fun _ _ => rfl
  rw [e] at q
  exact q
theorem ed_allM {α : Type} {K : PySem.W.Frag} {xs : List α} {f : α → Bool} (h : Ea tr S [.list (xs.map fun x => .bool (f x))]) : Ed (tCB (rAll K) tr) S (.bool (xs.all f)) := by
  have e : (xs.map fun x => PyData.bool (f x)) = (xs.map f).map PyData.bool := by rw [List.map_map]; rfl
  rw [e] at h
  refine ed_is (ed_all h) ?_
  rw [List.all_map]
  rfl
theorem ed_anyM {α : Type} {K : PySem.W.Frag} {xs : List α} {f : α → Bool} (h : Ea tr S [.list (xs.map fun x => .bool (f x))]) : Ed (tCB (rAny K) tr) S (.bool (xs.any f)) := by
  have e : (xs.map fun x => PyData.bool (f x)) = (xs.map f).map PyData.bool := by rw [List.map_map]; rfl
  rw [e] at h
  refine ed_is (ed_any h) ?_
  rw [List.any_map]
  rfl
end

/-! ### the data -/
abbrev Row := List Nat
abbrev Lot := List (Nat × Nat)
abbrev Fl := List Lot
abbrev Rig := List Nat × List Lot
def eN (n : Nat) : PyData := .int (n : Int)
def eRow (r : Row) : PyData := .tuple (r.map eN)
def ePr (p : Nat × Nat) : PyData := .tuple [eN p.1, eN p.2]
def eLot (l : Lot) : PyData := .tuple (l.map ePr)
def eFl (f : Fl) : PyData := .tuple (f.map eLot)
def eRig (g : Rig) : PyData := .tuple [eRow g.1, eFl g.2]
def eSh (s : Nat × Nat) : PyData := .tuple [eN s.1, eN s.2]
def eOut (p : Row × Bool) : PyData := .tuple [eRow p.1, .bool p.2]
def eLog (l : List (Row × Bool)) : PyData := .tuple (l.map eOut)
theorem noL_eN (n : Nat) : noL (eN n) = true := rfl
theorem noL_eRow (r : Row) : noL (eRow r) = true := noLs_map fun _ _ => rfl
theorem noL_ePr (p : Nat × Nat) : noL (ePr p) = true := rfl
theorem noL_eLot (l : Lot) : noL (eLot l) = true := noLs_map fun _ _ => rfl
theorem noL_eFl (f : Fl) : noL (eFl f) = true := noLs_map fun x _ => noL_eLot x
theorem noL_eOut (p : Row × Bool) : noL (eOut p) = true := by
  show (noL (eRow p.1) && (true && true)) = true
  rw [noL_eRow]
  rfl
theorem at_row {r : Row} {k : Nat} (h : k < r.length) : atI (r.map eN) ((k : Nat) : Int) = some (eN (r.getD k 0)) := by
  refine atI_nat ?_
  rw [List.getElem?_map, List.getElem?_eq_getElem h, List.getD_eq_getElem?_getD, List.getElem?_eq_getElem h]
  rfl
theorem szl {n : Nat} (h : n ≤ 1000000) : n ≤ sizeLine := Nat.le_trans h (by decide)

/-- a row meets a lot -/
def meets (r : Row) (l : Lot) : Bool := l.all fun p => decide (r.getD p.1 0 = p.2)
/-- the lot's knobs are of so many -/
def LotOn (n : Nat) (l : Lot) : Prop := l.length ≤ 1000 ∧ ∀ p ∈ l, p.1 < n
end Rn
end
section
set_option maxHeartbeats 4000000
namespace Rn
open PySem L2 PyProof.Rows
variable {P : Program} {w : World} {K : PySem.W.Frag} {mg : Str → Option Value} {base : Heap}

/-! is_whole -/
abbrev sWhole : Stmt := top 14
theorem scWhole : FnScope ["value", "least", "most"] ["value", "least", "most"] (defScope sWhole) := ⟨rfl, rfl, rfl, by decide +kernel, rfl, by decide +kernel, by decide +kernel⟩
def RWhole : List PyData → Ab → Prop := fun ds P => ∃ v a b : Int, ds = [.int v, .int a, .int b] ∧ P = dA (.bool (decide (a ≤ v ∧ v ≤ b)))
theorem ok_whole (T : Tb mg) (D : Dn K mg "is_whole" sWhole ["value", "least", "most"]) : Cal P w K mg base 1 "is_whole" ["value", "least", "most"] (spA RWhole) := by
  refine pure_cal D scWhole (fun ds P h => ?_) fun f cdv A outer s H E hr ds Pb h => ?_
  · obtain ⟨v, a, b, rfl, _⟩ := h
    rfl
  · obtain ⟨v, a, b, rfl, rfl⟩ := h
    refine ⟨_, pss_one (ps_ret (pe_and (w_isi K T.isi (pv 0) (w_ty "int" T.int boot_int)) (pe_and (pe_not (w_isi K T.isi (pv 0) (w_ty "bool" T.bool boot_bool))) (pe_one (pe_chain op_le op_le (pv 1) (pv 0) (pv 2)))))), ?_⟩
    refine rt_ret (ed_is (ed_andV (ed_isi (d := .int v) (ed_var rfl) k_int_int) fun _ => ed_andV (ed_notV (ed_isi (d := .int v) (ed_var rfl) k_int_bool)) fun _ => ed_chain (ed_var rfl) (ed_var rfl) (ed_var rfl)) ?_)
    simp

/-! does_meet -/
abbrev sMeet : Stmt := top 20
theorem scMeet : FnScope ["row", "lot", "knob", "value"] ["row", "lot"] (defScope sMeet) := ⟨rfl, rfl, rfl, by decide +kernel, rfl, by decide +kernel, by decide +kernel⟩
def RMeet : List PyData → Ab → Prop := fun ds P => ∃ (r : Row) (l : Lot), ds = [eRow r, eLot l] ∧ LotOn r.length l ∧ P = dA (.bool (meets r l))
theorem ok_meet (T : Tb mg) (D : Dn K mg "does_meet" sMeet ["row", "lot"]) : Cal P w K mg base 1 "does_meet" ["row", "lot"] (spA RMeet) := by
  refine pure_cal D scMeet (fun ds P h => ?_) fun f cdv A outer s H E hr ds Pb h => ?_
  · obtain ⟨r, l, rfl, _⟩ := h
    rfl
  · obtain ⟨r, l, rfl, hl, rfl⟩ := h
    refine ⟨_, pss_one (ps_ret (w_all K T.all (pa_cons (pe_lc (own := [("knob", 2), ("value", 3)]) (g := gTup K 2 (gCons (gName 2) (gCons (gName 3) gNil))) (tt := tYes) rfl scMeet.nd (pi_tup (pv 1))
      (blkOk_by (own := [("knob", 2), ("value", 3)]) (N := ["row", "lot", "knob", "value"]) (sc := defScope sMeet) (by decide +kernel)) (fun _ _ _ _ _ => pg_two 2 3 rfl scMeet.nd) (fun _ _ _ _ _ => pts_nil)
      (fun _ _ _ _ _ => pe_cmpR op_eq (w_ixT K (pv 0) (pv 2)) (pv 3) (nomark _))) pa_nil))), ?_⟩
    refine rt_ret (ed_allM (xs := l) (f := fun p => decide (r.getD p.1 0 = p.2)) (ea_cons (Ef.ed (ef_lcA l ePr _ (fun p => [some (dA (eRow r)), some (dA (eLot l)), some (dA (eN p.1)), some (dA (eN p.2))]) (src_tup (ed_var rfl)) (szl (by have := hl.1; omega)) (js := [2, 3]) (by decide)
      (fun p _ => tg_pair) (fun p hp => ?_) (fun _ _ => rfl))) ea_nil))
    refine ed_is (ed_eqI (ed_ixT (d := eN (r.getD p.1 0)) (ed_var rfl) (ed_var rfl) (at_row (hl.2 p hp))) (ed_var rfl)) ?_
    congr 1
    exact decide_eq_decide.mpr ⟨fun q => by omega, fun q => by omega⟩
end Rn
end
section
set_option maxHeartbeats 4000000
/-! enumerate over a tuple; <= of lots. -/
namespace Rn
open PySem PySem.Spec PyProof.Rows L2

theorem meets_enum1 {v : Value} {o : Obj} {G : Heap → Prop} (B : Begins v o G) :
    Meets (Builtin.«enumerate.__new__» ⟨[.type "enumerate", v], []⟩) (fun _ R s => G s.heap ∧
      R (.ok (.ret (.ref (s.heap.push o).objs.size))) { s with heap := (s.heap.push o).push { cls := .type "enumerate", data := .fields #[.none, .bool false, .ref s.heap.objs.size, rawInt 0, .none, .none] } }) :=
  .of_wp fun prog w A R s h => by
    obtain ⟨hp, g, d, tk, os⟩ := s
    obtain ⟨h1, h⟩ := h
    have hsub := sub_enumerate
    have q1 : ∀ {A' : Around} {E : Value → Shared → Prop} {Q : Value → Shared → Prop},
        Q (.ref hp.objs.size) ⟨hp.push o, g, d, tk, os⟩ → wpAny (model prog w) A' (pyIter v) Q E ⟨hp, g, d, tk, os⟩ :=
      fun q => B.iter prog w _ _ ⟨hp, g, d, tk, os⟩ _ h1 q
    wp_walk using q1
    refine wpAny_stack_any fun st => wpAny_pure ?_
    split
    · rename_i c _ _ _ _ _
      cases (c == Value.type "enumerate") <;>
      · wp_walk using q1
        exact ⟨_, rfl, h⟩
    · wp_walk using q1
      exact ⟨_, rfl, h⟩
theorem call_enum1 {prog : Program} {w : World} {A : Around} {E : Value → Shared → Prop} {s : Shared} {v : Value} {o : Obj} {G : Heap → Prop} {Q : Value → Shared → Prop} (B : Begins v o G) (h1 : G s.heap)
    (h : ∀ h', IsEnum h' (s.heap.objs.size + 1) s.heap.objs.size 0 .none → h'.get? s.heap.objs.size = some o →
      (∀ b o, s.heap.get? b = some o → h'.get? b = some o) → Q (.ref (s.heap.objs.size + 1)) { s with heap := h' }) :
    wpAny (model prog w) A (call (.type "enumerate") [v]) Q E s := by
  refine callType_new F.called_enumerate (by decide) (F.typeCall_enumerate_1 _) (F.newCall_enumerate_1 _) (fun obj => F.args_object_init_2 obj _)
    F.entry_enumerate_new (meets_enum1 B) ⟨h1, ?_⟩
  have hz : (s.heap.push o).objs.size = s.heap.objs.size + 1 := Heap.size_push ..
  show _ ∧ _
  rw [hz]
  generalize ho : ({ cls := .type "enumerate", data := .fields #[.none, .bool false, .ref s.heap.objs.size, rawInt 0, .none, .none] } : Obj) = oe
  have he : ((s.heap.push o).push oe).get? (s.heap.objs.size + 1) = some oe := by
    have q := Heap.get?_push_size (s.heap.push o) (o := oe) (by rw [← ho]; rfl)
    rw [hz] at q
    exact q
  have he' : IsEnum ((s.heap.push o).push oe) (s.heap.objs.size + 1) s.heap.objs.size 0 .none := by
    rw [← ho] at he ⊢
    exact he
  refine ⟨⟨_, he, by rw [← ho]⟩, h _ he' (Heap.get?_push_of_some _ (Heap.get?_push_size _ B.free)) fun b o' x => ?_⟩
  exact Heap.get?_push_of_some _ (Heap.get?_push_of_some _ x)

/-- the tuple at a, its items in new pairs with their numbers -/
def ItET (K : PySem.W.Frag) (a : Addr) (xs : List V) : It :=
  ⟨fun i H => i < xs.length ∧ SqT K H a xs, fun i H v H' => ∃ T x, v = .ref T ∧ H T = none ∧ H' = upd H T (.tup [.int (i : Nat), x]) ∧ xs[i]? = some x,
    fun i H => i = xs.length ∧ SqT K H a xs⟩
theorem turn_ET {P : Program} {w : World} {K : PySem.W.Frag} {elts : List Expr} {kk : Nat} {tpos : Pos} (a e it : Addr) (xs : List V) (hai : a ≠ it) (hae : e ≠ a) :
    Turn P w K (.Tuple elts kk tpos) (ItET K a xs) [e, it] e (fun i h => (∃ old, IsEnum h e it ((i : Nat) : Int) old) ∧ h.IsTupleIter it a i ∧ e ≠ it) where
  mem := by simp
  obj := fun i h st b hb => by
    obtain ⟨⟨old, he⟩, ⟨o, ho, hc, hd⟩, _⟩ := st
    rcases (show b = e ∨ b = it by simpa using hb) with z | z
    · subst z
      exact ⟨_, he, fun v q => nomatch q⟩
    · subst z
      exact ⟨o, ho, fun v q => by rw [hd] at q; cases q⟩
  keep := fun i h h' st k => by
    obtain ⟨⟨old, he⟩, hi, hne⟩ := st
    exact ⟨⟨old, k e (by simp) _ he⟩, hi.at fun o q => k it (by simp) o q, hne⟩
  item := by
    intro X hP hw hK hc i pins s σ H E I hf st hg
    subst hP hw hK
    obtain ⟨⟨old, he⟩, hit, hne⟩ := st
    obtain ⟨hi, hq⟩ := hg
    obtain ⟨its, rv, p, hz⟩ := I.tuple hq
    have hel : e < s.heap.objs.size := Heap.lt_size he
    have hil : it < s.heap.objs.size := by
      obtain ⟨_, q, _⟩ := hit
      exact Heap.lt_size q
    have D := Draws.tuple (prog := X.prog) (w := X.w) (A := X.A.in1) (by exact I.ok.hd hc) it a hai its.toArray
    have hsz : its.toArray.size = xs.length := by rw [List.size_toArray, rv.length]
    refine wpAny_pyNext_enum_itemC D he ⟨hit, p⟩ (by rw [hsz]; exact hi) hne (by simp [hne, hae]) fun u h' tk hu ho hst hT hsz' hk => ?_
    obtain ⟨x, hx⟩ : ∃ x, xs[i]? = some x := ⟨_, List.getElem?_eq_getElem hi⟩
    obtain ⟨u', hu', ru⟩ := rv.get hx
    have eu : u = u' := by
      have q : its.toArray[i]? = some u := hu
      rw [List.getElem?_toArray, hu'] at q
      exact (Option.some.inj q).symm
    subst eu
    refine ⟨_, rfl, wpAny_letOwnedTupleGo_enum (s := { s with heap := h', toks := tk + 1 }) ho fun h'' he' sb => ?_⟩
    have hT2 := (sb.2 _ (Nat.ne_of_gt hel)).trans hT
    have new : ObjOk X.prog X.w (upd H s.heap.objs.size (.tup [.int (i : Nat), x])) h'' s.heap.objs.size (.tup [.int (i : Nat), x]) :=
      ⟨by show 2 ≤ sizeLine; decide, [.int i tk, u], .cons ⟨_, rfl⟩ (.cons ru .nil), ⟨_, hT2, rfl, _, rfl⟩⟩
    have I1 := I.turnedNew (h' := h'') (t' := tk + 1) (ch := [e, it]) (fun b ob hb q => (sb.2 b (fun z => hb (by simp [z]))).trans (hk b ob (fun z => hb (by simp [z])) (fun z => hb (by simp [z])) q)) hf (Nat.le_refl _) new
    refine ⟨.ref s.heap.objs.size, _, I1, rfl, ⟨_, x, rfl, I.hok.fresh (Nat.le_refl _), rfl, hx⟩, ⟨⟨u, ?_⟩, hst.1.at fun o q => (sb.2 it (Ne.symm hne)).trans q, hne⟩, fun b hb => ?_⟩
    · have e1 : ((i + 1 : Nat) : Int) = (i : Int) + 1 := by omega
      rw [e1]
      exact he'
    · have hb' : b < s.heap.objs.size := by
        rcases (show b = e ∨ b = it by simpa using hb) with z | z
        · subst z; exact hel
        · subst z; exact hil
      rw [upd_ne (Nat.ne_of_lt hb')]
      exact (hf b hb).1
  done := by
    intro X hP hw hK hc i pins s σ H E I hf st hg
    subst hP hw hK
    obtain ⟨⟨old, he⟩, hit, hne⟩ := st
    obtain ⟨hi, hq⟩ := hg
    obtain ⟨its, rv, p, hz⟩ := I.tuple hq
    obtain ⟨f0, f1, f2, f3, f4, f5⟩ := hf it (by simp)
    have D := Draws.tuple (prog := X.prog) (w := X.w) (A := X.A.in1) (by exact I.ok.hd hc) it a hai its.toArray
    have hsz : its.toArray.size = i := by rw [List.size_toArray, ← rv.length, hi]
    exact wpAny_pyNext_enum_endD D he ⟨by rw [hsz]; exact hit, p⟩ fun h' eb => ⟨rfl, I.turned (t' := s.toks) (fun b o hb q => eb b o hb q) f0 f1 f3 f4 f5⟩
  self := fun A i s Q E st h => by
    obtain ⟨⟨_, he⟩, _⟩ := st
    exact wpAny_pyIter_enum he h
def iEnumT (K : PySem.W.Frag) (ta : TA) : TI := fun σ H R => ta σ H fun vs H1 => ∃ a xs, vs = [.ref a] ∧ SqT K H1 a xs ∧ R (ItET K a xs) H1
theorem pi_enumT {X : Cx} {e : Expr} {ta : TA} {p pos tpos : Pos} {elts : List Expr} {kk : Nat} (K : PySem.W.Frag) (hm : X.mg "enumerate" = none) (ha : PA X [e] ta) (hK : X.K = K := by rfl) (hg : Gl X "enumerate" := by rfl) (hs : starEach [e] X.env = [(false, eval e X.env)] := by rfl) :
    PI X (.Tuple elts kk tpos) (.Call (.Name "enumerate" p) [e] [] pos) (iEnumT K ta) := by
  subst hK
  refine ⟨fun pins s σ H R I h => ?_⟩
  refine Call_ (ld_blt I hg hm boot_enumerate (PyProof.Rows.callWith_type1 (thn (ha.run pos pins s σ H _ I h) fun us s1 ⟨vs, H1, I1, r1, q1⟩ => ?_) hs rfl))
  obtain ⟨a, xs, ex, hq, q⟩ := q1
  subst ex
  cases r1 with
  | cons r rr =>
    cases rr
    cases r
    obtain ⟨its, rv, p', hz⟩ := I1.tuple hq
    have hal : a < s1.heap.objs.size := p'.lt
    refine call_enum1 (begins_tuple a its.toArray) p' fun h' he hit hk => wpAny_pyIter_enum he ?_
    have I2 : Inv X pins σ H1 { s1 with heap := h' } := I1.kept (t' := s1.toks) hk
    refine ⟨s1.heap.objs.size + 1, [s1.heap.objs.size + 1, s1.heap.objs.size], _, _, H1, rfl, I2, turn_ET a (s1.heap.objs.size + 1) s1.heap.objs.size xs (Nat.ne_of_lt hal) (Nat.ne_of_gt (Nat.lt_succ_of_lt hal)), ⟨⟨.none, he⟩, ⟨_, hit, rfl, rfl⟩, Nat.succ_ne_self _⟩, fun b hb => ?_, q⟩
    have hle : s1.heap.objs.size ≤ b := by
      rcases (show b = s1.heap.objs.size + 1 ∨ b = s1.heap.objs.size by simpa using hb) with z | z
      · subst z
        exact Nat.le_add_right _ _
      · subst z
        exact Nat.le_refl _
    exact I1.fpOk hle (I1.hok.fresh hle)
theorem src_enumT {K : PySem.W.Frag} {S : Sto} {tr : TA} {ds : List PyData} (h : Ea tr S [.tuple ds]) : Src (iEnumT K tr) S (ds.zipIdx.map fun p => .tuple [.int (p.2 : Nat), p.1]) := fun σ H R hl hh k =>
  h σ H _ hl hh fun vs H1 e1 p1 => by
    obtain ⟨v, rfl, a, xs, rfl, ha, hx⟩ := one_of p1
    have lx := hx.length
    refine ⟨a, xs, rfl, SqT.of ha, k _ H1 e1 fun H' e' => ⟨fun i hi => ⟨by simp at hi; omega, SqT.of (e' _ _ ha)⟩, ⟨by simp; omega, SqT.of (e' _ _ ha)⟩, fun i x H2 hi y => ?_⟩⟩
    obtain ⟨T, x1, rfl, hT, rfl, q⟩ := y
    obtain ⟨d, hd, dq⟩ := (hx.mono e').get_v q
    refine ⟨Same.new hT, .tuple [.int (i : Nat), d], by simp [hd], T, _, rfl, upd_same, .cons rfl (.one (Dq.mono (Same.new hT) _ _ dq))⟩
/-- the same over a list -/
theorem src_enumL {K : PySem.W.Frag} {S : Sto} {tr : TA} {ds : List PyData} (h : Ea tr S [.list ds]) : Src (iEnum K tr) S (ds.zipIdx.map fun p => .tuple [.int (p.2 : Nat), p.1]) := fun σ H R hl hh k =>
  h σ H _ hl hh fun vs H1 e1 p1 => by
    obtain ⟨v, rfl, a, xs, rfl, ha, hx⟩ := one_of p1
    have lx := hx.length
    refine ⟨a, xs, rfl, SqL.of ha, k _ H1 e1 fun H' e' => ⟨fun i hi => ?_, ⟨xs, SqL.of (e' _ _ ha), by simp; omega⟩, fun i x H2 hi y => ?_⟩⟩
    · have hi' : i < xs.length := by simp at hi; omega
      exact ⟨xs, xs[i], SqL.of (e' _ _ ha), List.getElem?_eq_getElem hi'⟩
    · obtain ⟨T, x1, rfl, hT, rfl, q⟩ := y
      obtain ⟨d, hd, dq⟩ := (hx.mono e').get_v (q xs (SqL.of (e' _ _ ha)))
      refine ⟨Same.new hT, .tuple [.int (i : Nat), d], by simp [hd], T, _, rfl, upd_same, .cons rfl (.one (Dq.mono (Same.new hT) _ _ dq))⟩

/-! ### <= of lots -/
theorem eqv_pr (p q : Nat × Nat) : PyData.eqv (ePr p) (ePr q) = decide (p = q) := by
  obtain ⟨a, b⟩ := p
  obtain ⟨c, d⟩ := q
  show (((a : Nat) : Int) == ((c : Nat) : Int) && ((((b : Nat) : Int) == ((d : Nat) : Int)) && true)) = _
  rw [Bool.and_true]
  simp only [Bool.beq_eq_decide_eq, Int.ofNat_inj, Prod.mk.injEq, Bool.decide_and]
open Ob in
/-- (a, b) <= (c, d) -/
def prLe (p q : Nat × Nat) : Bool := if p.1 = q.1 then (if p.2 = q.2 then true else decide (p.2 ≤ q.2)) else decide (p.1 ≤ q.1)
def lotLe (l m : Lot) : Bool := Ob.lexAt (fun j => decide (l.getD j (0, 0) = m.getD j (0, 0))) (fun j => prLe (l.getD j (0, 0)) (m.getD j (0, 0))) (decide (l.length ≤ m.length)) 0 (min l.length m.length)
def rLeLot : R2 := fun x y H Q => ∃ l m : Lot, Dq H (eLot l) x ∧ Dq H (eLot m) y ∧ Q (.bl (lotLe l m)) H
theorem op_leLot {X : Cx} (hu : X.A.units + 8 < cLine) : OpR X (compareOp .LtE) rLeLot := by
  intro pins s σ H x y v u Q I rx ry h
  obtain ⟨l, m, ⟨a, xs, rfl, ha, hx⟩, ⟨b, ys, rfl, hb, hy⟩, q⟩ := h
  cases rx
  cases ry
  obtain ⟨its, r1, p1, _⟩ := I.tuple (SqT.of (K := X.K) ha)
  obtain ⟨its2, r2, p2, _⟩ := I.tuple (SqT.of (K := X.K) hb)
  have e1 : its.toArray.size = l.length := by rw [List.size_toArray, ← r1.length, hx.length, List.length_map]
  have e2 : its2.toArray.size = m.length := by rw [List.size_toArray, ← r2.length, hy.length, List.length_map]
  -- what stands at a place: a pair of whole numbers
  have at_ : ∀ {l : Lot} {xs : List V} {its : List Value} (hx : DqAll H (l.map ePr) xs) (r1 : Vals xs its) (j : Nat) (h1 : j < its.toArray.size), ∃ c t t', its.toArray[j] = .ref c ∧ s.heap.IsTuple c #[.int ((l.getD j (0, 0)).1 : Nat) t, .int ((l.getD j (0, 0)).2 : Nat) t'] ∧ ∃ as, Reads s.heap (.ref c) (ePr (l.getD j (0, 0))) as := by
    intro l xs its hx r1 j h1
    have hj : j < l.length := by
      have := hx.length
      have := r1.length
      simp at h1 this
      simp_all
    have hlj : l[j]? = some (l.getD j (0, 0)) := by rw [List.getD_eq_getElem?_getD, List.getElem?_eq_getElem hj]; rfl
    obtain ⟨v, hv, dv⟩ := hx.get (show (l.map ePr)[j]? = some (ePr (l.getD j (0, 0))) by rw [List.getElem?_map, hlj]; rfl)
    obtain ⟨u, hu', ru⟩ := r1.get hv
    have rd := Dp.reads I _ _ _ (Dq.dp (K := X.K) _ _ dv) ru
    obtain ⟨c, zs, rfl, hc, hz⟩ := dv
    obtain ⟨z1, z2, rfl, q1, q2⟩ := two_of hz
    have q1' : z1 = V.int ((l.getD j (0, 0)).1 : Nat) := q1
    have q2' : z2 = V.int ((l.getD j (0, 0)).2 : Nat) := q2
    subst q1' q2'
    obtain ⟨its3, r3, p3, _⟩ := I.tuple (SqT.of (K := X.K) hc)
    cases r3 with
    | cons ra rb =>
      cases rb with
      | cons rb rc =>
        cases rc
        obtain ⟨t, rfl⟩ := ra
        obtain ⟨t', rfl⟩ := rb
        cases ru
        refine ⟨c, t, t', ?_, p3, rd⟩
        have : its.toArray[j]? = some (.ref c) := by rw [List.getElem?_toArray, hu']
        exact (Array.getElem?_eq_some_iff.mp this).2
  have R := Ob.RcOp.tuples_le (A := X.A) (s := s) (e := fun j => decide (l.getD j (0, 0) = m.getD j (0, 0))) (r := fun j => prLe (l.getD j (0, 0)) (m.getD j (0, 0))) p1 p2 (by omega) (fun j h1 h2 => ?_) (fun j h1 h2 _ => ?_)
  · rw [e1, e2] at R
    exact R X.prog X.w X.xe (EP X pins σ Q) ⟨.bl _, H, I, rfl, q⟩
  · obtain ⟨c, t, t', ec, hc, hc2⟩ := at_ hx r1 j h1
    obtain ⟨d, t2, t2', ed, hd, hd2⟩ := at_ hy r2 j h2
    rw [ec, ed]
    obtain ⟨as, ra⟩ := hc2
    obtain ⟨bs, rb⟩ := hd2
    generalize l.getD j (0, 0) = p at ra
    generalize m.getD j (0, 0) = p2 at rb
    have q := SeqAt.eqAt_reads _ _ X.A.in1 s _ _ as bs ra rb rfl rfl (by show X.A.units + 1 + min 1 1 < cLine; omega)
    rw [eqv_pr] at q
    exact q
  · obtain ⟨c, t, t', ec, hc, hc2⟩ := at_ hx r1 j h1
    obtain ⟨d, t2, t2', ed, hd, hd2⟩ := at_ hy r2 j h2
    clear hc2 hd2
    rw [ec, ed]
    generalize l.getD j (0, 0) = p at hc
    generalize m.getD j (0, 0) = p2 at hd
    have R2 := Ob.RcOp.tuples_le (A := X.A.in1) (s := s) (e := fun j => if j = 0 then decide (p.1 = p2.1) else decide (p.2 = p2.2)) (r := fun j => if j = 0 then decide (p.1 ≤ p2.1) else decide (p.2 ≤ p2.2)) hc hd (by show X.A.units + 1 < cLine; omega) (fun j h1 h2 => ?_) (fun j h1 h2 _ => ?_)
    · have e : prLe p p2 = Ob.lexAt (fun j => if j = 0 then decide (p.1 = p2.1) else decide (p.2 = p2.2)) (fun j => if j = 0 then decide (p.1 ≤ p2.1) else decide (p.2 ≤ p2.2)) (decide (2 ≤ 2)) 0 (min 2 2) := by
        show prLe p p2 = Ob.lexAt _ _ _ 0 (0 + 1 + 1)
        rw [Ob.lexAt_succ, Ob.lexAt_succ, Ob.lexAt_zero]
        unfold prLe
        simp
      rw [e]
      exact R2
    · match j, h1, h2 with
      | 0, _, _ => exact (by simpa [Int.ofNat_inj, Bool.beq_eq_decide_eq] using SeqAt.EqAt.int_int (A := X.A.in1.in1) (s := s) (p.1 : Int) t (p2.1 : Int) t2)
      | 1, _, _ => exact (by simpa [Int.ofNat_inj, Bool.beq_eq_decide_eq] using SeqAt.EqAt.int_int (A := X.A.in1.in1) (s := s) (p.2 : Int) t' (p2.2 : Int) t2')
    · match j, h1, h2 with
      | 0, _, _ => exact (by simpa using Ob.RcOp.le_int (A := X.A.in1.in1) (s := s) (p.1 : Int) (p2.1 : Int) t t2)
      | 1, _, _ => exact (by simpa using Ob.RcOp.le_int (A := X.A.in1.in1) (s := s) (p.2 : Int) (p2.2 : Int) t' t2')
end Rn
end
section
set_option maxHeartbeats 4000000
/-! sorted of data, the empty tuple allowed as the first item. -/
namespace Rn
open PySem PySem.Spec PySem.W PyProof.Rows PySem.SeqAt
section
variable {prog : Program} {w : World} {M : Model} {A : Around} {E : Value → Shared → Prop} {s : Shared}
/-- tuple's own __lt__, as sorting calls it -/
theorem call_tup_lt {Q : Value → Shared → Prop} {l b : Addr} {xs ys : Array Value} {e r : Nat → Bool} (hl : s.heap.IsTuple l xs) (hb : s.heap.IsTuple b ys)
    (he : ∀ j (h1 : j < xs.size) (h2 : j < ys.size), EqAt A.in1 s xs[j] ys[j] (e j)) (hr : ∀ j (h1 : j < xs.size) (h2 : j < ys.size), e j = false → RcLt A.in1 s xs[j] ys[j] (r j))
    (h : Q (.bool (firstLt e r (decide (xs.size < ys.size)) (List.range (min xs.size ys.size)))) s) : wpAny (model prog w) A (call (.builtin "tuple.__lt__") [.ref l, .ref b]) Q E s := by
  obtain ⟨⟨c1, d1, t1, s1⟩, ho, hc, n, hd⟩ := id hl
  obtain ⟨⟨c2, d2, t2, s2⟩, ho2, hc2, n2, hd2⟩ := id hb
  simp only at hc hd hc2 hd2
  subst hc hd hc2 hd2
  exact call_meets F.slot_tuple_lt ⟨_, ho, rfl⟩ F.entry_tuple_lt (F.args_tuple_lt_2 _ _) (tuple_ltAt l b xs ys n n2 d1 d2 s1 s2 e r) ⟨ho, ho2, he, hr, h⟩
theorem oneLt_tup {xs ys : List PyData} {a b : Value} {as bs : List Addr} {Q : Bool → Shared → Prop} (ra : Reads s.heap a (.tuple xs) as) (rb : Reads s.heap b (.tuple ys) bs) (h : alike (.tuple xs) (.tuple ys) = true)
    (hu : A.units + min (PyData.tuple xs).depth (PyData.tuple ys).depth < cLine) (hq : Q (dataLt (.tuple xs) (.tuple ys)) s) : wpAny (model prog w) A (oneLt' true a b) Q E s := by
  have hal : alikeAll xs ys = true := by simpa [alike] using h
  cases ra with
  | @tuple l o vs n _ as₁ h1 h2 h3 h4 =>
    cases rb with
    | @tuple l' o' vs' n' _ bs₁ k1 k2 k3 k4 =>
      have n1 : vs.size = xs.length := by simpa using SeqAt.ReadsAll.length _ _ _ h4
      have n2 : vs'.size = ys.length := by simpa using SeqAt.ReadsAll.length _ _ _ k4
      rw [dataLt_tuple, ← firstLt_toks xs ys hal, ← n1, ← n2] at hq
      rw [oneLt'_eq]
      simp only [if_true]
      refine wpAny_bind (wpAny_cRoomFor (room_here hu) ?_)
      refine wpAny_bind (wpAny_callSpecialIfBound?_slot (T := "tuple") ⟨_, h1, h2⟩ F.slot_tuple_lt
        (call_tup_lt (e := pairEq xs ys) (r := fun j => dataLt (xs.getD j .none) (ys.getD j .none)) ⟨_, h1, h2, _, h3⟩ ⟨_, k1, k2, _, k3⟩ (fun j j1 j2 => ?_) (fun j j1 j2 hj => ?_) ?_))
      · have q1 := eqAt_alikeAll xs ys A.in1 s vs.toList vs'.toList _ _ h4 k4 hal (room_in hu) j (by rw [Array.length_toList]; exact j1) (by rw [Array.length_toList]; exact j2)
        rw [Array.getElem_toList, Array.getElem_toList] at q1
        exact q1
      · have q1 := rcLt_alikeAll xs ys A.in1 s vs.toList vs'.toList _ _ h4 k4 hal (room_in hu) j (by rw [Array.length_toList]; exact j1) (by rw [Array.length_toList]; exact j2) hj
        rw [Array.getElem_toList, Array.getElem_toList] at q1
        exact q1
      · exact wpAny_truthy_bool hq
def IsTp (h : Heap) (v : Value) (xs : Array Value) : Prop := ∃ a o n, v = .ref a ∧ h.get? a = some o ∧ o.cls = .type "tuple" ∧ o.data = .seq xs n
theorem first_tp {v : Value} {xs : Array Value} {Q : Option Value → Shared → Prop} (t : IsTp s.heap v xs) (h : Q xs[0]? s) : wpAny M A (firstOfTuple' v) Q E s := by
  obtain ⟨a, o, n, rfl, ho, hc, hd⟩ := t
  rw [kas_first_eq]
  refine wpAny_bind (Looks.here (show Looks M s.heap (typeOf (.ref a)) o.cls from (Looks.ld ho).andThen .now) ?_)
  rw [hc, if_neg (by first | decide | simp)]
  exact wpAny_bind (listItems_at ho hd (wpAny_pure h))
theorem firsts_tp : ∀ (vs : List Value) {Q : List (Option Value) → Shared → Prop}, (∀ v ∈ vs, ∃ xs, IsTp s.heap v xs) → (∀ fs, Q fs s) → wpAny M A (vs.mapM firstOfTuple') Q E s
  | [], _, _, h => by rw [List.mapM_nil]; exact wpAny_pure (h [])
  | v :: vs, Q, t, h => by
    obtain ⟨xs, hx⟩ := t v (by simp)
    rw [List.mapM_cons]
    exact wpAny_bind (first_tp hx (wpAny_bind (firsts_tp vs (Q := fun bs s' => wpAny M A (pure (xs[0]? :: bs)) Q E s') (fun u hu => t u (by simp [hu])) fun fs => wpAny_pure (h _))))
theorem kind_empty {v : Value} {vs : List Value} {Q : SortKind → Shared → Prop} (h0 : IsTp s.heap v #[]) (t : ∀ u ∈ vs, ∃ xs, IsTp s.heap u xs) (h : Q oneType' s) : wpAny M A (keyKind' (v :: vs).toArray) Q E s := by
  have tT : ∀ u ∈ v :: vs, Looks M s.heap (typeOf u) (.type "tuple") := by
    intro u hu
    have : ∃ xs, IsTp s.heap u xs := by
      rcases List.mem_cons.mp hu with e | hu
      · exact ⟨_, e ▸ h0⟩
      · exact t u hu
    obtain ⟨xs, a, o, n, rfl, ho, hc, hd⟩ := this
    exact hc ▸ (Looks.ld ho).andThen .now
  rw [keyKind'_eq, List.mapM_toArray, map_eq_pure_bind, List.mapM_cons]
  refine wpAny_bind (wpAny_bind (wpAny_bind (first_tp h0 (wpAny_bind (firsts_tp vs t fun fs => wpAny_pure (wpAny_pure ?_))))))
  rw [if_neg (by simp), if_neg (by simp)]
  rw [oneTypeOnly'_eq, List.mapM_toArray, map_eq_pure_bind]
  refine wpAny_bind (wpAny_bind (wpAny_bind (kas_mapM (r := Value.type "tuple") _ (fun u hu Q' hq => (tT u hu).here hq) (wpAny_pure ?_))))
  have hall : ((List.map (fun _ => Value.type "tuple") (v :: vs)).toArray.all fun x => x == Value.type "tuple") = true := by
    simp only [List.all_toArray, List.all_map, List.all_eq_true]
    intro _ _
    rfl
  have hz : (List.map (fun _ => Value.type "tuple") (v :: vs)).toArray[0]? = some (Value.type "tuple") := by simp
  rw [hz]
  simp only [hall, if_true]
  exact wpAny_pure (wpAny_pure h)
theorem tp_of_reads {v : Value} {xs : List PyData} {as : List Addr} (r : Reads s.heap v (.tuple xs) as) : ∃ ys, IsTp s.heap v ys ∧ ys.size = xs.length := by
  cases r with
  | @tuple l o vs n _ as₁ h1 h2 h3 h4 => exact ⟨vs, ⟨_, _, n, rfl, h1, h2, h3⟩, by simpa using SeqAt.ReadsAll.length _ _ _ h4⟩
/-- values that read as alike data, the empty tuple first, can be sorted -/
theorem sortsAt0 {vs : List Value} {ds : List PyData} (e : EachIs (fun v d => ∃ as, Reads s.heap v d as) vs (.tuple [] :: ds)) (hal : AllAlike (.tuple [] :: ds)) (hu : ∀ d, d ∈ .tuple [] :: ds → A.units + d.depth < cLine) :
    SortsAt prog w A s (dataKind s.heap (.tuple [] :: ds)) vs := by
  have tup : ∀ d, d ∈ PyData.tuple [] :: ds → ∃ xs, d = .tuple xs := fun d hd => by
    have q := hal (.tuple []) (by simp) d hd
    cases d <;> first | exact ⟨_, rfl⟩ | exact absurd q (by simp [alike])
  refine ⟨fun v hv => ?_, oneType', ?_, fun h2 E Q hq => ?_⟩
  · obtain ⟨d, hd, as, r⟩ := e.left v hv
    exact ⟨_, dataKind_some hal hd r⟩
  · intro E x y a b Q ha hb hq
    obtain ⟨d, as, hd, ra, rfl⟩ := dataKind_inv ha
    obtain ⟨d', as', hd', rb, rfl⟩ := dataKind_inv hb
    have hdd := hal d hd d' hd'
    obtain ⟨xs, rfl⟩ := tup d hd
    obtain ⟨ys, rfl⟩ := tup d' hd'
    rw [keyLt'_oneType]
    exact oneLt_tup ra rb hdd (Nat.lt_of_le_of_lt (Nat.add_le_add_left (Nat.min_le_left _ _) _) (hu _ hd)) hq
  · cases e with
    | cons h0 t =>
      obtain ⟨as, r⟩ := h0
      obtain ⟨zs, hz, hsz⟩ := tp_of_reads r
      have ez : zs = #[] := Array.eq_empty_of_size_eq_zero hsz
      subst ez
      refine kind_empty hz (fun u hu' => ?_) hq
      obtain ⟨d, hd, bs, r'⟩ := t.left u hu'
      obtain ⟨xs, rfl⟩ := tup d (by simp [hd])
      obtain ⟨ys, hy, _⟩ := tp_of_reads r'
      exact ⟨ys, hy⟩
/-- what sorted takes here -/
def Srt (ds : List PyData) : Prop := AllAlike ds ∧ (Sortable ds ∨ ∃ r, ds = .tuple [] :: r)
theorem sortsAt_of {vs : List Value} {ds : List PyData} (e : EachIs (fun v d => ∃ as, Reads s.heap v d as) vs ds) (hs : Srt ds) (hu : ∀ d, d ∈ ds → A.units + d.depth < cLine) : SortsAt prog w A s (dataKind s.heap ds) vs := by
  obtain ⟨hal, hk | ⟨r, rfl⟩⟩ := hs
  · exact SortsAt.data e hal hk hu
  · exact sortsAt0 e hal hu
theorem sorted_srt {β : Type} {vs : List Value} {bs : List β} {enc : β → PyData} {R : Value → β → Prop} {l : Addr} {Q : Value → Shared → Prop} (hl : s.heap.IsList l vs.toArray) (e : EachIs R vs bs) (er : EachIs (fun v b => ∃ as, Reads s.heap v (enc b) as) vs bs) (hs : Srt (bs.map enc)) (hL : bs.length ≤ sizeLine)
    (hu : ∀ b, b ∈ bs → A.units + 2 + (enc b).depth < cLine) (h : ∀ out, out.length = bs.length → EachIs R out (bs.mergeSort (dataLe false enc)) → Q (.ref (s.heap.objs.size + 1)) { s with heap := sortedAll s.heap vs (List.toArray out) }) :
    wpAny (model prog w) A (call (.builtin "sorted") [.ref l]) Q E s := by
  have er' : EachIs (fun v b => ∃ as, Reads (sortingHeap (copyHeap s.heap vs) (s.heap.objs.size + 1) vs) v (enc b) as) vs bs := er.mono fun _ _ ⟨as, r⟩ => ⟨as, PyProof.Rows.Reads.keeps (fun _ _ => sorting_copy_old) r⟩
  have S := sortsAt_of (prog := prog) (w := w) (A := A.in1.in1) (s := { s with heap := sortingHeap (copyHeap s.heap vs) (s.heap.objs.size + 1) vs })
    (each_map (R := fun v d => ∃ as, Reads (sortingHeap (copyHeap s.heap vs) (s.heap.objs.size + 1) vs) v d as) enc er') hs (bound_map hu)
  refine sorted_vals hl S (by rw [e.length]; exact hL) (h _ ?_ ?_)
  · rw [sortVals_length false rfl]
    exact e.length
  · exact sortVals_data false e er' hs.1
end
end Rn

namespace Rn
open PySem PySem.Spec PySem.W PyProof.Rows L2
/-- sorted of a list that stands for data -/
def rSrt : List L2.V → Hp → VK → Prop := fun vs H Q => ∃ (a : Addr) (xs : List L2.V) (β : Type) (enc : β → PyData) (bs : List β), vs = [.ref a] ∧ H a = some (.lst xs) ∧ DqAll H (bs.map enc) xs ∧ Srt (bs.map enc) ∧ (∀ b ∈ bs, (enc b).depth ≤ 8) ∧
  ∀ p ys, H p = none → DqAll H ((bs.mergeSort (dataLe false enc)).map enc) ys → Q (.ref p) (upd H p (.lst ys))
theorem each_of {X : Cx} {pins : List (Addr × Obj)} {σ : L2.St} {H : Hp} {s : Shared} {β : Type} {enc : β → PyData} (I : Inv X pins σ H s) : ∀ {bs : List β} {xs : List L2.V} {us : List Value}, DqAll H (bs.map enc) xs → Vals xs us →
    EachIs (fun u b => ∃ x, L2.RelV x u ∧ Dq H (enc b) x) us bs ∧ EachIs (fun u b => ∃ as, Reads s.heap u (enc b) as) us bs
  | [], _, _, h, r => by
    cases h
    cases r
    exact ⟨.nil, .nil⟩
  | b :: bs, _, _, ⟨v, t, rfl, h2, h3⟩, r => by
    cases r with
    | cons r1 r2 =>
      obtain ⟨q1, q2⟩ := each_of I h3 r2
      exact ⟨.cons ⟨v, r1, h2⟩ q1, .cons (Dp.reads I _ _ _ (Dq.dp (K := X.K) _ _ h2) r1) q2⟩
theorem of_each {H : Hp} {β : Type} {enc : β → PyData} : ∀ {bs : List β} {us : List Value}, EachIs (fun u b => ∃ x, L2.RelV x u ∧ Dq H (enc b) x) us bs → ∃ xs, Vals xs us ∧ DqAll H (bs.map enc) xs
  | _, _, .nil => ⟨[], .nil, rfl⟩
  | _, _, .cons ⟨x, r, d⟩ t => by
    obtain ⟨xs, h1, h2⟩ := of_each t
    exact ⟨x :: xs, .cons r h1, x, xs, rfl, d, h2⟩
theorem call_srt {X : Cx} (hu : X.A.units + 16 < cLine) : CallR X (.builtin "sorted") rSrt := by
  intro pins s σ H vs us Q I r h
  obtain ⟨a, xs, β, enc, bs, rfl, ha, hx, hs, hd, q⟩ := h
  cases r with
  | cons r rr =>
    cases rr
    cases r
    obtain ⟨its, rv, pl, hz⟩ := I.list (SqL.of (K := X.K) ha)
    obtain ⟨e1, e2⟩ := each_of I hx rv
    have hlen := hx.length
    rw [List.length_map] at hlen
    refine sorted_srt (R := fun u b => ∃ x, L2.RelV x u ∧ Dq H (enc b) x) pl.isList e1 e2 hs (by omega) (fun b hb => by have := hd b hb; omega) fun out hlo ho => ?_
    obtain ⟨ys, hy1, hy2⟩ := of_each ho
    obtain ⟨c, hc⟩ := sortedAll_at s.heap its out.toArray
    have hf : H (s.heap.objs.size + 1) = none := I.hok.fresh (Nat.le_succ _)
    refine ⟨.ref (s.heap.objs.size + 1), upd H (s.heap.objs.size + 1) (.lst ys), I.laid (t' := s.toks) (fun b o e => sortedAll_old e) (Nat.le_succ _) ⟨?_, out, c, hy1, hc⟩, rfl, q _ ys hf hy2⟩
    rw [hy1.length, hlo]
    omega
theorem ef_sorted {S : Sto} {tr : TA} {β : Type} (enc : β → PyData) (bs : List β) (h : Ea tr S [.list (bs.map enc)]) (hs : Srt (bs.map enc)) (hd : ∀ b ∈ bs, (enc b).depth ≤ 8) : Ef (tCB rSrt tr) S ((bs.mergeSort (dataLe false enc)).map enc) := fun σ H Q hl hh k =>
  h σ H _ hl hh fun vs H1 e1 p1 => by
    obtain ⟨v, rfl, a, xs, rfl, ha, hx⟩ := one_of p1
    exact ⟨a, xs, β, enc, bs, rfl, ha, hx, hs, hd, fun p ys hp hy => k p ys _ (Same.free e1 hp) (Same.mut e1 (Same.free e1 hp)) upd_same (hy.mono (Same.new hp))⟩
theorem w_sorted {X : Cx} {k : Nat} {e : Expr} {t : TA} {p pos : Pos} (hr : Room k X.A) (hm : X.mg "sorted" = none) (ha : PA X [e] t) (hg : Gl X "sorted" := by rfl) (he : starEach [e] X.env = (false, eval e X.env) :: starEach [] X.env := by rfl) :
    PE X (.Call (.Name "sorted" p) [e] [] pos) (tCB rSrt t) := pe_callB (call_srt (by have := hr.units; omega)) hg hm PyProof.Rows.boot_sorted ha (he := he)
end Rn
end
section
set_option maxHeartbeats 4000000
/-! Dicts whose keys are tuples of any depth. -/
namespace Rn
open PySem PySem.Spec PyProof.Rows L2

/-! ### the key that a datum is -/
mutual
def keyOf : PyData → NestedKey
  | .none => .none
  | .bool b => .num (if b = true then 1 else 0)
  | .int i => .num i
  | .str x => .text x
  | .list _ => .none
  | .tuple ds => .tup (keysOf ds)
  | .dict _ => .none
def keysOf : List PyData → List NestedKey
  | [] => []
  | d :: ds => keyOf d :: keysOf ds
end
/-- a value that stands for a datum without lists is that key -/
theorem nest_of {X : Cx} {pins : List (Addr × Obj)} {σ : L2.St} {H : Hp} {s : Shared} (I : Inv X pins σ H s) : (∀ (d : PyData) (v : V) (u : Value), noL d = true → Dq H d v → RelV v u → NestedIs s.heap (keyOf d) u) ∧
    ∀ (ds : List PyData) (vs : List V) (us : List Value), noLs ds = true → DqAll H ds vs → Vals vs us → NestedAll s.heap (keysOf ds) us := by
  have main : ∀ n : Nat, (∀ (d : PyData) (v : V) (u : Value), sizeOf d ≤ n → noL d = true → Dq H d v → RelV v u → NestedIs s.heap (keyOf d) u) ∧
      ∀ (ds : List PyData) (vs : List V) (us : List Value), sizeOf ds ≤ n → noLs ds = true → DqAll H ds vs → Vals vs us → NestedAll s.heap (keysOf ds) us := by
    intro n
    induction n with
    | zero =>
      refine ⟨fun d v u hn => ?_, fun ds vs us hn => ?_⟩
      · cases d <;> simp at hn
      · cases ds <;> simp at hn
    | succ n ih =>
      refine ⟨fun d v u hn hl hd r => ?_, fun ds vs us hn hl hd r => ?_⟩
      · cases d with
        | none => cases hd; cases r; exact .none
        | bool b => cases hd; cases r; exact .bool rfl
        | int i => cases hd; obtain ⟨t, rfl⟩ := r; exact .int i t
        | str x => cases hd; obtain ⟨t, rfl⟩ := r; exact .text x t
        | list ds => simp [noL] at hl
        | tuple ds =>
          obtain ⟨a, xs, rfl, h1, h2⟩ := hd
          cases r
          obtain ⟨its, rv, ⟨o, ho, hc, m, hdt⟩, _⟩ := I.tuple (SqT.of (K := X.K) h1)
          refine .tup ho hc hdt ?_
          have e : its.toArray.toList = its := by simp
          rw [e]
          exact ih.2 ds xs its (by simp at hn; omega) (by simpa [noL] using hl) h2 rv
        | dict kvs => exact False.elim hd
      · cases ds with
        | nil => cases hd; cases r; exact .nil
        | cons d ds =>
          obtain ⟨v, t, rfl, h1, h2⟩ := hd
          cases r with
          | cons r1 r2 =>
            have hl' : noL d = true ∧ noLs ds = true := by simpa [noLs] using hl
            exact .cons (ih.1 d _ _ (by simp at hn; omega) hl'.1 h1 r1) (ih.2 ds _ _ (by simp at hn; omega) hl'.2 h2 r2)
  exact ⟨fun d v u => (main (sizeOf d)).1 d v u (Nat.le_refl _), fun ds vs us => (main (sizeOf ds)).2 ds vs us (Nat.le_refl _)⟩

/-! ### the table -/
abbrev NRow := NestedKey × Addr × V
/-- the object at p -/
def pinO (p : Addr) (o : Obj) : HO := .ext fun h => h.get? p = some o
def DNo (P : Program) (w : World) (p : Addr) (o : Obj) (rows : List NRow) : Prop := (p == sysModules) = false ∧ rows.length ≤ sizeLine ∧ ∃ (xs : List (NestedKey × Addr × Value)) (es : Array DictEntry) (ep : Nat),
  Paired (fun (r : NRow) (x : NestedKey × Addr × Value) => r.1 = x.1 ∧ r.2.1 = x.2.1 ∧ RelV r.2.2 x.2.2) rows xs ∧ o.ExactDict ∧ o.data = .dict es ep ∧ es.toList = xs.map (entryOfKey (nestedKind P w)) ∧ (xs.map (·.1)).Nodup
/-- the key k stands in H at b -/
def KeyIn (H : Hp) (k : NestedKey) (b : Addr) : Prop := ∃ d, k = keyOf d ∧ Dq H d (.ref b) ∧ noL d = true ∧ k.depth ≤ 8
def NTab (P : Program) (w : World) (H : Hp) (p : Addr) (rows : List NRow) : Prop := ∃ o, H p = some (pinO p o) ∧ DNo P w p o rows ∧ ∀ r ∈ rows, KeyIn H r.1 r.2.1
theorem KeyIn.tk {H H' : Hp} {k : NestedKey} {b : Addr} (e : Tk H H') (h : KeyIn H k b) : KeyIn H' k b := let ⟨d, h1, h2, h3, h4⟩ := h; ⟨d, h1, Dq.tk e d _ h3 h2, h3, h4⟩
theorem NTab.mono {P : Program} {w : World} {H H' : Hp} {p : Addr} {rows : List NRow} (e : Same H H') (h : NTab P w H p rows) : NTab P w H' p rows :=
  let ⟨o, h1, h2, h3⟩ := h
  ⟨o, e _ _ h1, h2, fun r hr => (h3 r hr).tk (Tk.of_same e)⟩
/-- the same table where another thing changes -/
theorem NTab.tk {P : Program} {w : World} {H H' : Hp} {p : Addr} {rows : List NRow} (e : Tk H H') (hp : ∀ u, H p = some u → H' p = some u) (h : NTab P w H p rows) : NTab P w H' p rows :=
  let ⟨o, h1, h2, h3⟩ := h
  ⟨o, hp _ h1, h2, fun r hr => (h3 r hr).tk e⟩
def valR (rows : List NRow) (k : NestedKey) : Option V := (rows.find? fun r => decide (r.1 = k)).map (·.2.2)
def putR (rows : List NRow) (k : NestedKey) (b : Addr) (v : V) : List NRow := if (valR rows k).isSome = true then rows.map (fun r => if r.1 = k then (r.1, r.2.1, v) else r) else rows ++ [(k, b, v)]
theorem putR_new {rows : List NRow} {k : NestedKey} {b : Addr} {v : V} (h : valR rows k = none) : putR rows k b v = rows ++ [(k, b, v)] := by
  unfold putR
  rw [h]
  rfl
theorem putR_length (rows : List NRow) (k : NestedKey) (b : Addr) (v : V) : (putR rows k b v).length ≤ rows.length + 1 := by
  unfold putR
  split
  · rw [List.length_map]; omega
  · rw [List.length_append, List.length_cons, List.length_nil]; omega
abbrev RX : List NRow → List (NestedKey × Addr × Value) → Prop := Paired fun (r : NRow) (x : NestedKey × Addr × Value) => r.1 = x.1 ∧ r.2.1 = x.2.1 ∧ RelV r.2.2 x.2.2
theorem RX.val {rows : List NRow} {xs : List (NestedKey × Addr × Value)} (r : RX rows xs) (k : NestedKey) : RelO (valR rows k) ((atKey xs k).map (·.2)) := by
  induction r with
  | nil => exact True.intro
  | @cons p q ps qs h t ih =>
    obtain ⟨h1, _, h2⟩ := h
    by_cases e : p.1 = k
    · have e' : q.1 = k := h1.symm.trans e
      have a : valR (p :: ps) k = some p.2.2 := by simp [valR, List.find?_cons, e]
      have b : atKey (q :: qs) k = some q.2 := by simp [atKey, List.find?_cons, e']
      rw [a, b]; exact h2
    · have e' : ¬ q.1 = k := fun z => e (h1.trans z)
      have a : valR (p :: ps) k = valR ps k := by simp [valR, List.find?_cons, e]
      have b : atKey (q :: qs) k = atKey qs k := by simp [atKey, List.find?_cons, e']
      rw [a, b]; exact ih
theorem RX.put {rows : List NRow} {xs : List (NestedKey × Addr × Value)} (r : RX rows xs) (k : NestedKey) (b : Addr) {v : V} {u : Value} (rv : RelV v u) : RX (putR rows k b v) (storedH xs k b u) := by
  have e : (valR rows k).isSome = (atKey xs k).isSome := by rw [(r.val k).isSome_eq, Option.isSome_map]
  unfold putR storedH
  rw [e]
  by_cases q : (atKey xs k).isSome = true
  · rw [if_pos q, if_pos q]
    clear e q
    induction r with
    | nil => exact .nil
    | @cons p q ps qs h t ih =>
      rw [List.map_cons, List.map_cons]
      refine .cons ?_ ih
      obtain ⟨h1, h2, h3⟩ := h
      unfold putAt
      by_cases e : p.1 = k
      · rw [if_pos e, if_pos (h1.symm.trans e)]; exact ⟨h1, h2, rv⟩
      · rw [if_neg e, if_neg (fun z => e (h1.trans z))]; exact ⟨h1, h2, h3⟩
  · rw [if_neg q, if_neg q]
    exact Paired.snoc r ⟨rfl, rfl, rv⟩
theorem putR_keys {H : Hp} {rows : List NRow} {k : NestedKey} {b : Addr} {v : V} (h : ∀ r ∈ rows, KeyIn H r.1 r.2.1) (hk : KeyIn H k b) : ∀ r ∈ putR rows k b v, KeyIn H r.1 r.2.1 := by
  intro r hr
  unfold putR at hr
  split at hr
  · obtain ⟨q, hq, rfl⟩ := List.mem_map.mp hr
    split
    · exact h q hq
    · exact h q hq
  · rcases List.mem_append.mp hr with q | q
    · exact h r q
    · rw [List.mem_singleton.mp q]; exact hk
section
variable {X : Cx} {pins : List (Addr × Obj)} {σ : L2.St} {H : Hp} {s : Shared} {p b : Addr} {rows : List NRow} {k : NestedKey} {v : V} {u : Value} {A : Around} {E : Value → Shared → Prop}
theorem key_nest (I : Inv X pins σ H s) (h : KeyIn H k b) : (nestedKind X.prog X.w).is s.heap k b := by
  obtain ⟨d, rfl, h2, h3, h4⟩ := h
  exact ⟨(nest_of I).1 d _ _ h3 h2 rfl, h4⟩
theorem ntab_at (I : Inv X pins σ H s) (h : NTab X.prog X.w H p rows) : (p == sysModules) = false ∧ rows.length ≤ sizeLine ∧ ∃ xs, RX rows xs ∧ s.heap.DictOfH (nestedKind X.prog X.w) p xs := by
  obtain ⟨o, h1, ⟨h2, h3, xs, es, ep, r, h4, h5, h6, h7⟩, hk⟩ := h
  obtain ⟨ho, _⟩ := (show ObjOk X.prog X.w H s.heap p (pinO p o) from I.hok p _ h1)
  refine ⟨h2, h3, xs, r, o, es, ep, ho, h4, h5, h6, fun x hx => ?_, h7⟩
  have all : ∀ {l : List NRow} {m : List (NestedKey × Addr × Value)}, RX l m → (∀ r ∈ l, KeyIn H r.1 r.2.1) → ∀ x ∈ m, (nestedKind X.prog X.w).is s.heap x.1 x.2.1 := by
    intro l m q
    induction q with
    | nil => intro _ x hx; exact nomatch hx
    | @cons p q ps qs hq t ih =>
      intro hk x hx
      rcases List.mem_cons.mp hx with e | hx
      · subst e
        rw [← hq.1, ← hq.2.1]
        exact key_nest I (hk p (by simp))
      · exact ih (fun r hr => hk r (by simp [hr])) x hx
  exact all r hk x hx
/-- a table at p, its object replaced -/
theorem ntab_write {h' : Heap} {t' : Nat} {xs : List (NestedKey × Addr × Value)} {rows' : List NRow} (I : Inv X pins σ H s) (h : NTab X.prog X.w H p rows) (hs : Heap.SameBut p s.heap h') (dd : h'.DictOfH (nestedKind X.prog X.w) p xs) (r : RX rows' xs) (hz : rows'.length ≤ sizeLine) (hk : ∀ r ∈ rows', KeyIn H r.1 r.2.1) :
    ∃ o, Inv X pins σ (upd H p (pinO p o)) { s with heap := h', toks := t' } ∧ NTab X.prog X.w (upd H p (pinO p o)) p rows' := by
  obtain ⟨o0, h1, ⟨h2, _⟩, _⟩ := h
  obtain ⟨o, es, ep, ho, h4, h5, h6, _, h7⟩ := dd
  refine ⟨o, d_write I (by rw [h1]; exact True.intro) hs ⟨o, ho⟩ ⟨ho, ⟨o, ho⟩, fun g1 g2 f k => k _ f⟩, o, upd_same, ⟨h2, hz, xs, es, ep, r, h4, h5, h6, h7⟩, fun r hr => (hk r hr).tk fun a ys ha => ?_⟩
  rw [upd_ne fun e => ?_]
  · exact ha
  · rw [e, h1] at ha; cases ha

/-! d[k] = v; {} -/
theorem n_set {Q : Unit → Shared → Prop} (hu : A.units + 9 < cLine) (I : Inv X pins σ H s) (h : NTab X.prog X.w H p rows) (hk : KeyIn H k b) (hz : rows.length < sizeLine) (rv : RelV v u)
    (hq : ∀ s' o, Inv X pins σ (upd H p (pinO p o)) s' → NTab X.prog X.w (upd H p (pinO p o)) p (putR rows k b v) → Q () s') : wpAny (model X.prog X.w) A (setItem (.ref p) (.ref b) u) Q E s := by
  obtain ⟨h2, h3, xs, r, dd⟩ := ntab_at I h
  refine wpAny_setItem_heap (hsz := by rw [← Paired.length r]; exact h3) (show A.units + 1 + 8 < cLine by omega) (key_nest I hk) dd fun h' dd' hs => ?_
  obtain ⟨o, I', n'⟩ := ntab_write I h hs dd' (r.put k b rv) (by have := putR_length rows k b v; omega) (putR_keys (by obtain ⟨_, _, _, z⟩ := h; exact z) hk)
  exact hq _ o I' n'
theorem n_dset {Q : Unit → Shared → Prop} (hu : A.units + 9 < cLine) (I : Inv X pins σ H s) (h : NTab X.prog X.w H p rows) (hk : KeyIn H k b) (hz : rows.length < sizeLine) (rv : RelV v u)
    (hq : ∀ s' o, Inv X pins σ (upd H p (pinO p o)) s' → NTab X.prog X.w (upd H p (pinO p o)) p (putR rows k b v) → Q () s') : wpAny (model X.prog X.w) A (dictSet p (.ref b) u) Q E s := by
  obtain ⟨h2, h3, xs, r, dd⟩ := ntab_at I h
  refine wpAny_dictSet_heap (hsz := by rw [← Paired.length r]; exact h3) (show A.units + 8 < cLine by omega) (key_nest I hk) dd fun h' dd' hs => ?_
  obtain ⟨o, I', n'⟩ := ntab_write I h hs dd' (r.put k b rv) (by have := putR_length rows k b v; omega) (putR_keys (by obtain ⟨_, _, _, z⟩ := h; exact z) hk)
  exact hq _ o I' n'
end
/-- {} -/
def eDict : Obj := { cls := .type "dict", data := .dict #[] }
def tDNewN : TE := fun _ H Q => ∀ p, H p = none → (p == sysModules) = false → Q (.ref p) (upd H p (pinO p eDict))
theorem ntab_new {P : Program} {w : World} {H : Hp} {p : Addr} (hp : (p == sysModules) = false) (h : H p = some (pinO p eDict)) : NTab P w H p [] := ⟨eDict, h, ⟨hp, Nat.zero_le _, [], #[], 0, .nil, ⟨rfl, rfl, rfl⟩, rfl, rfl, List.nodup_nil⟩, fun _ hr => nomatch hr⟩
theorem laidN {X : Cx} {pins : List (Addr × Obj)} {σ : L2.St} {H : Hp} {s : Shared} (I : Inv X pins σ H s) : Inv X pins σ (upd H s.heap.objs.size (pinO s.heap.objs.size eDict)) { s with heap := s.heap.push eDict } :=
  I.laid (a := s.heap.objs.size) (o := pinO s.heap.objs.size eDict) (t' := s.toks) (fun _ _ q => Heap.get?_push_of_some _ q) (Nat.le_refl _) ⟨Heap.get?_push_size _ rfl, ⟨_, Heap.get?_push_size _ rfl⟩, fun g1 g2 f k => k _ f⟩
theorem pe_dnewN {X : Cx} {pos : Pos} : PE X (.Dict [] [] pos) tDNewN := ⟨fun pins s σ H Q I h =>
  wpAny_Dict_empty ⟨.ref s.heap.objs.size, _, laidN I, rfl, h _ (I.hok.fresh (Nat.le_refl _)) (beq_eq_false_iff_ne.mpr (Ne.symm (Nat.ne_of_lt I.big)))⟩⟩
/-- k in d, k not in d -/
def rNIn (P : Program) (w : World) : R2 := fun x y H Q => ∃ b p rows k, x = .ref b ∧ y = .ref p ∧ NTab P w H p rows ∧ KeyIn H k b ∧ Q (.bl (valR rows k).isSome) H
def rNNotIn (P : Program) (w : World) : R2 := fun x y H Q => ∃ b p rows k, x = .ref b ∧ y = .ref p ∧ NTab P w H p rows ∧ KeyIn H k b ∧ Q (.bl (!(valR rows k).isSome)) H
section
variable {X : Cx}
theorem op_nin (hu : X.A.units + 16 < cLine) : OpR X (compareOp .In) (rNIn X.prog X.w) := by
  intro pins s σ H x y v u Q I rx ry h
  obtain ⟨b, p, rows, k, rfl, rfl, ht, hk, q⟩ := h
  cases rx
  cases ry
  obtain ⟨h2, h3, xs, r, dd⟩ := ntab_at I ht
  refine wpAny_in_heap (show X.A.units + 1 + 8 < cLine by omega) (key_nest I hk) h2 dd ?_
  have e : (valR rows k).isSome = (atKey xs k).isSome := by rw [(r.val k).isSome_eq, Option.isSome_map]
  rw [e] at q
  exact ⟨.bl _, H, I.tok _, rfl, q⟩
theorem op_nnotin (hu : X.A.units + 16 < cLine) : OpR X (compareOp .NotIn) (rNNotIn X.prog X.w) := by
  intro pins s σ H x y v u Q I rx ry h
  obtain ⟨b, p, rows, k, rfl, rfl, ht, hk, q⟩ := h
  cases rx
  cases ry
  obtain ⟨h2, h3, xs, r, dd⟩ := ntab_at I ht
  refine wpAny_notIn_heap (show X.A.units + 1 + 8 < cLine by omega) (key_nest I hk) h2 dd ?_
  have e : (valR rows k).isSome = (atKey xs k).isSome := by rw [(r.val k).isSome_eq, Option.isSome_map]
  rw [e] at q
  exact ⟨.bl _, H, I.tok _, rfl, q⟩
/-- d[k] = v, a statement -/
def tNPut (P : Program) (w : World) (td ty tv : TE) : TS := fun D σ H => tv σ H fun v H1 => td σ H1 fun x H2 => ty σ H2 fun y H3 => ∃ p b rows k, x = .ref p ∧ y = .ref b ∧ NTab P w H3 p rows ∧ KeyIn H3 k b ∧ rows.length < sizeLine ∧
  ∀ o, NTab P w (upd H3 p (pinO p o)) p (putR rows k b v) → D.nx σ (upd H3 p (pinO p o))
theorem ps_nput {o i value : Expr} {pos pos' : Pos} {td ty tv : TE} (hu : X.A.units + 16 < cLine) (ho : PE X o td) (hi : PE X i ty) (hv : PE X value tv) (hs : swapsWith value (some (.Subscript o i pos')) pos.line X.env = pure false) :
    PS X (.Assign [.Subscript o i pos'] value pos) (tNPut X.prog X.w td ty tv) := by
  refine ⟨fun pins s σ H D I h => ?_⟩
  refine wpAny_Assign_Subscript (thn (hv.run pins s σ H _ I h) fun r s1 ⟨v, H1, I1, rv, q1⟩ => thn (ho.run pins s1 σ H1 _ I1 q1) fun u s2 ⟨x, H2, I2, rx, q2⟩ => thn (hi.run pins s2 σ H2 _ I2 q2) fun iv s3 ⟨y, H3, I3, ry, p, b, rows, k, ex, ey, ht, hk, hz, q3⟩ => ?_) hs
  subst ex ey
  obtain rfl : u = Value.ref p := rx
  obtain rfl : iv = Value.ref b := ry
  exact n_set (by omega) I3 ht hk hz rv fun s4 o I4 n4 => ⟨σ, _, I4, q3 o n4⟩
/-- d.setdefault(k, v) -/
def rNSetd (P : Program) (w : World) : V → List V → Hp → VK → Prop := fun x vs H Q => ∃ p b rows k v, x = .ref p ∧ vs = [.ref b, v] ∧ NTab P w H p rows ∧ KeyIn H k b ∧ rows.length < sizeLine ∧
  (∀ u, valR rows k = some u → Q u H) ∧ (valR rows k = none → ∀ o, NTab P w (upd H p (pinO p o)) p (rows ++ [(k, b, v)]) → Q v (upd H p (pinO p o)))
def tNSetd (P : Program) (w : World) (td : TE) (t : TA) : TE := fun σ H Q => td σ H fun x H1 => (∃ p rows, x = .ref p ∧ NTab P w H1 p rows) ∧ t σ H1 fun xs H2 => rNSetd P w x xs H2 Q
theorem ntab_type {pins : List (Addr × Obj)} {σ : L2.St} {H : Hp} {s : Shared} {p : Addr} {rows : List NRow} (I : Inv X pins σ H s) (h : NTab X.prog X.w H p rows) : s.TypeIs (.ref p) "dict" ∧ ∀ b, Value.ref p = .ref b → ∃ ob, s.heap.get? b = some ob ∧ ob.dict = none := by
  obtain ⟨_, _, xs, _, dd⟩ := ntab_at I h
  refine ⟨dd.typeIs, fun b q => ?_⟩
  cases q
  obtain ⟨ob, _, _, h1, h2, _⟩ := dd
  exact ⟨ob, h1, h2.2.1⟩
theorem pe_nsetd {o e f : Expr} {apos cpos : Pos} {td : TE} {t : TA} (hu : X.A.units + 16 < cLine) (ho : PE X o td) (ha : PA X [e, f] t) (m : M2 X o "setdefault" apos e f cpos)
    (hs : starEach [e, f] X.env = (false, eval e X.env) :: (false, eval f X.env) :: [] := by rfl) : PE X (.Call (.Attribute o "setdefault" apos) [e, f] [] cpos) (tNSetd X.prog X.w td t) := by
  refine ⟨fun pins s σ H Q I h => ?_⟩
  refine wpAny_Call_method m.base m.few m.line PySem.F.plainAttrs_dict PySem.F.slot_dict_setdefault PySem.F.type_dict_setdefault (thn (ho.run pins s σ H _ I h) fun u s1 ⟨x, H1, I1, rx, ⟨p, rows, ex, ht⟩, q1⟩ => ?_)
  subst ex
  obtain rfl : u = Value.ref p := rx
  obtain ⟨t1, t2⟩ := ntab_type I1 ht
  refine ⟨t1, t2, ?_⟩
  have hA := ha.run cpos pins s1 σ H1 _ I1 q1
  rw [hs] at hA
  rw [m.trees]
  refine Calls.callWith_builtin rfl (Calls.evalArgs_plain ?_)
  refine thn hA fun us s2 ⟨vs, H2, I2, r2, p', b, rows', k, v, ep, ev, ht2, hk, hz, w1, w2⟩ => ?_
  cases ep
  subst ev
  obtain ⟨u1, u2, rfl, ru1, ru2⟩ := r2.two
  cases ru1
  obtain ⟨h2, h3, xs, r, dd⟩ := ntab_at I2 ht2
  refine call_setdefault_heap (hsz := by rw [← Paired.length r]; exact h3) (show X.A.units + 1 + 8 < cLine by omega) (key_nest I2 hk) h2 dd (fun q hq => ?_) fun hn h' dd' hs' => ?_
  · have rr := r.val k
    rw [hq] at rr
    cases hv : valR rows' k with
    | none => rw [hv] at rr; exact False.elim rr
    | some x => rw [hv] at rr; exact ⟨x, H2, I2.tok _, rr, w1 x hv⟩
  · have rr := r.val k
    rw [hn] at rr
    cases hv : valR rows' k with
    | some x => rw [hv] at rr; exact False.elim rr
    | none =>
      have rp := r.put k b ru2
      rw [putR_new hv] at rp
      obtain ⟨o, I', n'⟩ := ntab_write (t' := s2.toks + (nestedKind X.prog X.w).draws k) I2 ht2 hs' dd' rp (by simp; omega) (by have := putR_keys (v := v) (by obtain ⟨_, _, _, z⟩ := ht2; exact z) hk; rwa [putR_new hv] at this)
      exact ⟨v, _, I', ru2, w2 hv o n'⟩
end
end Rn
end
section
set_option maxHeartbeats 4000000
/-! Dicts whose keys are tuples of any depth, continued: values, sorted, comprehensions. -/
namespace Rn
open PySem PySem.Spec PySem.W PyProof.Rows L2 PySem.Calls

/-! ### d.values() -/
def viewObj (p : Addr) : Obj := { cls := .type "dict_values", data := .fields #[.ref p] }
def tNVals (P : Program) (w : World) (td : TE) : TE := fun σ H Q => td σ H fun x H1 => ∃ p rows, x = .ref p ∧ NTab P w H1 p rows ∧ ∀ r, H1 r = none → Q (.ref r) (upd H1 r (pinO r (viewObj p)))
section
variable {X : Cx}
theorem ntab_raw {pins : List (Addr × Obj)} {σ : L2.St} {H : Hp} {s : Shared} {p : Addr} {o : Obj} {rows : List NRow} (I : Inv X pins σ H s) (h : H p = some (pinO p o)) (d : DNo X.prog X.w p o rows) : ∃ es ep, o.data = .dict es ep ∧ s.heap.DictRaw p es ep ∧ es.size = rows.length ∧ ∀ (i : Nat) (r : NRow) (hi : i < es.size), rows[i]? = some r → es[i].key = .ref r.2.1 ∧ L2.RelV r.2.2 es[i].val := by
  obtain ⟨_, _, xs, es, ep, rx, hx, hd, he, _⟩ := d
  obtain ⟨ho, _⟩ := (show ObjOk X.prog X.w H s.heap p (pinO p o) from I.hok p _ h)
  have hz : es.size = xs.length := size_of_entries he
  refine ⟨es, ep, hd, ⟨o, ho, hx, hd⟩, by rw [hz, Paired.length rx], fun i r hi hr => ?_⟩
  have e1 := entry_at he i
  rw [Array.getElem?_eq_getElem hi] at e1
  have hi' : i < xs.length := by omega
  rw [List.getElem?_eq_getElem hi'] at e1
  have e2 := Option.some.inj e1
  rw [e2]
  have pr : ∀ {l : List NRow} {m : List (NestedKey × Addr × Value)}, RX l m → ∀ (j : Nat) (r : NRow) (x : NestedKey × Addr × Value), l[j]? = some r → m[j]? = some x → r.2.1 = x.2.1 ∧ L2.RelV r.2.2 x.2.2 := by
    intro l m q
    induction q with
    | nil => intro j r x h1 _; simp at h1
    | @cons a b as bs hq t ih =>
      intro j r x h1 h2
      cases j with
      | zero => simp at h1 h2; subst h1 h2; exact hq.2
      | succ j => exact ih j r x (by simpa using h1) (by simpa using h2)
  obtain ⟨q1, q2⟩ := pr rx i r _ hr (List.getElem?_eq_getElem hi')
  exact ⟨by show Value.ref _ = _; rw [q1], q2⟩
theorem pe_nvals {o : Expr} {apos cpos : Pos} {td : TE} (ho : PE X o td) (hbase : attributeBase o "values" X.env (eval o X.env) = eval o X.env := by rfl) (hline : (apos.endLine == cpos.line) = true := by rfl) : PE X (.Call (.Attribute o "values" apos) [] [] cpos) (tNVals X.prog X.w td) := by
  refine ⟨fun pins s σ H Q I h => ?_⟩
  refine wpAny_Call_method (T := "dict") (id := "dict.values") hbase rfl hline F.plainAttrs_dict F.slot_dict_values F.type_dict_values (thn (ho.run pins s σ H _ I h) fun u s1 ⟨x, H1, I1, rx, p, rows, ex, ht, q⟩ => ?_)
  subst ex
  obtain rfl : u = Value.ref p := rx
  obtain ⟨t1, t2⟩ := ntab_type I1 ht
  refine ⟨t1, t2, ?_⟩
  obtain ⟨ob, h1, h2, _⟩ := id ht
  obtain ⟨es, ep, _, hr, _⟩ := ntab_raw I1 h1 h2
  show wpAny _ _ (callWith cpos (.builtin "dict.values") [.ref p] [] []) _ X.xe s1
  have hn := I1.hok.fresh (Nat.le_refl s1.heap.objs.size)
  have ev : (s1.heap.push (viewObj p)).get? s1.heap.objs.size = some (viewObj p) := Heap.get?_push_size _ rfl
  refine method_meetsIn F.slot_dict_values F.entry_dict_values rfl (PySem.evalArgs_none ⟨rfl, t1, F.args_dict_values_1 _, _, meets_dict_values_raw p h2.1, ⟨es, ep, hr⟩, ?_⟩)
  exact ⟨.ref s1.heap.objs.size, _, I1.laid (a := s1.heap.objs.size) (o := pinO s1.heap.objs.size (viewObj p)) (t' := s1.toks) (fun _ _ q => Heap.get?_push_of_some _ q) (Nat.le_refl _) ⟨ev, ⟨_, ev⟩, fun g1 g2 f k => k _ f⟩, rfl, q _ hn⟩
/-- the walk of the values of the table at p -/
def ItNV (p : Addr) (o : Obj) (rows : List NRow) : It := ⟨fun i H => i < rows.length ∧ H p = some (pinO p o), fun i H v H' => H' = H ∧ ∃ r, rows[i]? = some r ∧ v = r.2.2, fun i H => rows.length ≤ i ∧ H p = some (pinO p o)⟩
theorem turn_NV {P : Program} {w : World} {K : PySem.W.Frag} {tg : Expr} {p : Addr} {o : Obj} {rows : List NRow} {ep : Nat} {es : Array DictEntry} (it : Addr) (hne : p ≠ it) (d : DNo P w p o rows) (hod : o.data = .dict es ep) : Turn P w K tg (ItNV p o rows) [it] it (fun i h => i ≤ rows.length ∧ h.IsValIter it p i es.size ep) where
  mem := by simp
  obj := fun i h st b hb => by
    have e : b = it := by simpa using hb
    subst e
    obtain ⟨_, oi, e, c, dd⟩ := st
    exact ⟨oi, e, fun v z => by rw [dd] at z; cases z⟩
  keep := fun i h h' st k => ⟨st.1, st.2.at fun oi e => k it (by simp) oi e⟩
  item := by
    intro X hP hw hK hc i pins s σ H E I hf st hg
    subst hP hw hK
    obtain ⟨hi, hp⟩ := hg
    obtain ⟨f0, f1, f2, f3, f4, f5⟩ := hf it (by simp)
    obtain ⟨es', ep', hd', hr, hz, hx⟩ := ntab_raw I hp d
    rw [hod] at hd'
    cases hd'
    obtain ⟨_, st⟩ := st
    have hi' : i < es.size := by omega
    have W := Walks.rawValues (prog := X.prog) (w := X.w) (A := X.A) (by exact I.ok.hd hc) it p hne es ep
    refine W.item i s _ E hi' ⟨st, hr⟩ fun v h' tk hv st' hk => ?_
    obtain ⟨_, rfl⟩ := hv
    have I1 : Inv X pins σ H { s with heap := h', toks := tk } := I.turned (t' := tk) (fun b ob hb e => hk b ob (by simpa using hb) e) f0 f1 f3 f4 f5
    obtain ⟨oi, e, c, dd⟩ := id st'.1
    have hri : rows[i]? = some rows[i] := List.getElem?_eq_getElem hi
    refine ⟨_, rfl, go_of (s := { s with heap := h', toks := tk }) e c dd (by decide) ⟨rows[i].2.2, H, I1, (hx i _ hi' hri).2, ⟨rfl, _, hri, rfl⟩, ⟨hi, st'.1⟩, fun b hb => (hf b hb).1⟩⟩
  done := by
    intro X hP hw hK hc i pins s σ H E I hf st hg
    subst hP hw hK
    obtain ⟨hi, hp⟩ := hg
    obtain ⟨f0, f1, f2, f3, f4, f5⟩ := hf it (by simp)
    obtain ⟨es', ep', hd', hr, hz, hx⟩ := ntab_raw I hp d
    rw [hod] at hd'
    cases hd'
    obtain ⟨hle, st⟩ := st
    have e : i = es.size := by omega
    subst e
    have W := Walks.rawValues (prog := X.prog) (w := X.w) (A := X.A) (by exact I.ok.hd hc) it p hne es ep
    exact W.done s _ E ⟨st, hr⟩ fun h' tk hk => ⟨rfl, I.turned (t' := tk) (fun b ob hb e => hk b ob (by simpa using hb) e) f0 f1 f3 f4 f5⟩
  self := fun A i s Q E st h => wpAny_pyIter_valiter st.2 h
def iNV (P : Program) (w : World) (te : TE) : TI := fun σ H R => te σ H fun x H1 => ∃ r p o rows, x = .ref r ∧ H1 r = some (pinO r (viewObj p)) ∧ H1 p = some (pinO p o) ∧ DNo P w p o rows ∧ R (ItNV p o rows) H1
theorem pi_NV {tg e : Expr} {te : TE} (he : PE X e te) : PI X tg e (iNV X.prog X.w te) := by
  refine ⟨fun pins s σ H R I h => ?_⟩
  refine thn (he.run pins s σ H _ I h) fun u s1 ⟨x, H1, I1, rx, r, p, o, rows, ex, hr, hp, d, q⟩ => ?_
  subst ex
  obtain rfl : u = Value.ref r := rx
  obtain ⟨es, ep, hd, hraw, hz, _⟩ := ntab_raw I1 hp d
  obtain ⟨ho, _⟩ := (show ObjOk X.prog X.w H1 s1.heap r (pinO r (viewObj p)) from I1.hok r _ hr)
  refine wpAny_pyIter_values_raw ⟨_, ho, rfl, rfl⟩ hraw (pi_one (tk := s1.toks) I1 _ (turn_NV _ (Nat.ne_of_lt hraw.lt_size) d hd) ⟨Nat.zero_le _, ?_⟩ q)
  exact ⟨_, Heap.get?_push_size _ rfl, rfl, rfl⟩
end

/-! ### sorted(d), sorted(d.values()) -/
section
variable {prog : Program} {w : World} {A : Around} {E : Value → Shared → Prop} {s : Shared}
theorem sorted_src {T : String} {r d : Addr} {n : Nat} {Pv : Nat → Value → Prop} {OK : Heap → Prop} {Q : Value → Shared → Prop} (κ : Heap → List Value → PyProof.Rows.KeyKind) (K : KdlSrc prog w T r d n Pv OK) (hh : A.handled = none) (hok : OK s.heap) (hn : n ≤ sizeLine)
    (h : ∀ (h' : Heap) (tk : Nat) (vs : List Value), (∀ b o, s.heap.get? b = some o → h'.get? b = some o) → vs.length = n → (∀ (j : Nat) (v : Value), vs[j]? = some v → Pv j v) →
      SortsAt prog w A.in1.in1 { s with heap := sortingHeap (h'.push (seqObj "list" vs.toArray 0)) h'.objs.size vs, toks := tk } (κ h' vs) vs ∧
      Q (.ref h'.objs.size) { s with heap := sortedHeap (h'.push (seqObj "list" vs.toArray 0)) h'.objs.size vs (sortVals (κ h' vs) false vs vs).toArray, toks := tk }) :
    wpAny (model prog w) A (call (.builtin "sorted") [.ref r]) Q E s := by
  refine call_function_entry_kw kind_sorted plain_sorted entry_sorted (args_sorted1 _) ?_
  unfold Builtin.«sorted»
  refine wpAny_bind (m := checkCount "sorted" 1 1 _) (wpAny_pure ?_)
  refine wpAny_bind (kdu_collect (A := A.in1) K hh hok hn fun h' tk acc hk hacc => ?_)
  have hl : acc.toList.length = n := by rw [Array.length_toList]; exact hacc.1
  refine wpAny_bind (wpAny_newList ?_ (by rw [hl]; exact hn))
  obtain ⟨S, q⟩ := h h' tk acc.toList hk hl (fun j v e => hacc.2 j v (by rw [← Array.getElem?_toList]; exact e))
  have hat : (h'.push (seqObj "list" acc.toList.toArray 0)).get? h'.objs.size = some (seqObj "list" acc.toList.toArray 0) := Heap.get?_push_size _ rfl
  refine wpAny_bind (wpAny_holding (wpAny_call_entry_kw slot_list_sort ⟨_, hat, rfl⟩ entry_list_sort ?_ (args_list_sort _)))
  show wpAny (model prog w) A.in1.in1 (Builtin.«list.sort» ⟨[.ref h'.objs.size], []⟩) _ _ _
  refine wpAny_mono (list_sort_vals (s := { s with heap := h'.push (seqObj "list" acc.toList.toArray 0), toks := tk }) (P := fun f s' => f = .done (.ret .none) ∧ Q (.ref h'.objs.size) s') hat S (by rw [hl]; exact hn) ⟨rfl, q⟩) (fun f s' hf => ?_) fun _ _ e => e
  obtain ⟨rfl, hq⟩ := hf
  exact ⟨_, rfl, wpAny_pure ⟨_, rfl, hq⟩⟩
end
/-- what sorted gives back, of things that stand for data -/
def rSorted {β : Type} (enc : β → PyData) (bs : List β) (H : Hp) (Q : VK) : Prop := Srt (bs.map enc) ∧ (∀ b ∈ bs, (enc b).depth ≤ 8) ∧ ∀ p ys, H p = none → DqAll H ((bs.mergeSort (dataLe false enc)).map enc) ys → Q (.ref p) (upd H p (.lst ys))
section
variable {X : Cx}
theorem sorted_fin {pins : List (Addr × Obj)} {σ : L2.St} {H : Hp} {s : Shared} {Q : VK} {β : Type} {enc : β → PyData} {bs : List β} {xs : List L2.V} {h' : Heap} {tk : Nat} {vs : List Value} (hu : X.A.units + 16 < cLine) (I : Inv X pins σ H s) (q : rSorted enc bs H Q) (hx : DqAll H (bs.map enc) xs) (hz : bs.length ≤ sizeLine)
    (hk : ∀ b o, s.heap.get? b = some o → h'.get? b = some o) (rv : Vals xs vs) :
    SortsAt X.prog X.w X.A.in1.in1 { s with heap := sortingHeap (h'.push (seqObj "list" vs.toArray 0)) h'.objs.size vs, toks := tk } (dataKind (sortingHeap (h'.push (seqObj "list" vs.toArray 0)) h'.objs.size vs) (bs.map enc)) vs ∧
    EP X pins σ Q (.ref h'.objs.size) { s with heap := sortedHeap (h'.push (seqObj "list" vs.toArray 0)) h'.objs.size vs (sortVals (dataKind (sortingHeap (h'.push (seqObj "list" vs.toArray 0)) h'.objs.size vs) (bs.map enc)) false vs vs).toArray, toks := tk } := by
  obtain ⟨hs, hd, q⟩ := q
  have old : ∀ b o, s.heap.get? b = some o → b ≠ h'.objs.size ∧ (h'.push (seqObj "list" vs.toArray 0)).get? b = some o := fun b o e => ⟨Nat.ne_of_lt (Heap.lt_size (hk b o e)), Heap.get?_push_of_some _ (hk b o e)⟩
  obtain ⟨e1, e2⟩ := each_of I hx rv
  have er : EachIs (fun v b => ∃ as, Reads (sortingHeap (h'.push (seqObj "list" vs.toArray 0)) h'.objs.size vs) v (enc b) as) vs bs := e2.mono fun _ _ ⟨as, r⟩ => ⟨as, PyProof.Rows.Reads.keeps (fun b o e => sortingHeap_old (old b o e).1 (old b o e).2) r⟩
  refine ⟨sortsAt_of (each_map (R := fun v d => ∃ as, Reads (sortingHeap (h'.push (seqObj "list" vs.toArray 0)) h'.objs.size vs) v d as) enc er) hs (bound_map (fun b hb => by have := hd b hb; show X.A.units + 2 + (enc b).depth < cLine; omega)), ?_⟩
  have ho := sortVals_data (R := fun u b => ∃ x, L2.RelV x u ∧ Dq H (enc b) x) false e1 er hs.1
  obtain ⟨ys, hy1, hy2⟩ := of_each ho
  have hat : (h'.push (seqObj "list" vs.toArray 0)).get? h'.objs.size = some (seqObj "list" vs.toArray 0) := Heap.get?_push_size _ rfl
  obtain ⟨c, hc⟩ := sortedHeap_at (out := (sortVals (dataKind (sortingHeap (h'.push (seqObj "list" vs.toArray 0)) h'.objs.size vs) (bs.map enc)) false vs vs).toArray) hat
  have I' : Inv X pins σ H { s with heap := h', toks := tk } := I.kept (t' := tk) hk
  have hf : H h'.objs.size = none := I'.hok.fresh (Nat.le_refl _)
  have hlen : (sortVals (dataKind (sortingHeap (h'.push (seqObj "list" vs.toArray 0)) h'.objs.size vs) (bs.map enc)) false vs vs).length = vs.length := sortVals_length false rfl
  refine ⟨.ref h'.objs.size, upd H h'.objs.size (.lst ys), I'.laid (t' := tk) (fun b o e => ?_) (Nat.le_refl _) ⟨?_, _, c, hy1, hc⟩, rfl, q _ ys hf hy2⟩
  · have e1 : (h'.push (seqObj "list" vs.toArray 0)).get? b = some o := Heap.get?_push_of_some _ e
    rw [sortedHeap_old (Nat.ne_of_lt (Heap.lt_size (show h'.get? b = some o from e))) (Heap.lt_size e1)]
    exact e1
  · rw [hy1.length, hlen, ← rv.length, hx.length, List.length_map]
    exact hz
def rNSrtK (P : Program) (w : World) : List L2.V → Hp → VK → Prop := fun vs H Q => ∃ (p : Addr) (o : Obj) (rows : List NRow) (β : Type) (enc : β → PyData) (bs : List β), vs = [.ref p] ∧ H p = some (pinO p o) ∧ DNo P w p o rows ∧ DqAll H (bs.map enc) (rows.map fun r => L2.V.ref r.2.1) ∧ rSorted enc bs H Q
def rNSrtV (P : Program) (w : World) : List L2.V → Hp → VK → Prop := fun vs H Q => ∃ (r p : Addr) (o : Obj) (rows : List NRow) (β : Type) (enc : β → PyData) (bs : List β), vs = [.ref r] ∧ H r = some (pinO r (viewObj p)) ∧ H p = some (pinO p o) ∧ DNo P w p o rows ∧ DqAll H (bs.map enc) (rows.map fun r => r.2.2) ∧ rSorted enc bs H Q
theorem vals_rows {es : Array DictEntry} {rows : List NRow} {vs : List Value} (f : NRow → L2.V) (g : DictEntry → Value) (hz : es.size = rows.length) (hl : vs.length = es.size) (hx : ∀ (i : Nat) (r : NRow) (hi : i < es.size), rows[i]? = some r → L2.RelV (f r) (g es[i]))
    (hv : ∀ (j : Nat) (v : Value), vs[j]? = some v → ∃ hi : j < es.size, v = g es[j]) : Vals (rows.map f) vs := by
  have key : ∀ (n : Nat) (l : List NRow) (m : List Value), l.length = m.length → (∀ (j : Nat) (r : NRow) (v : Value), l[j]? = some r → m[j]? = some v → L2.RelV (f r) v) → Vals (l.map f) m := by
    intro n l
    induction l with
    | nil => intro m hm _; cases m with
      | nil => exact .nil
      | cons _ _ => simp at hm
    | cons a l ih => intro m hm h; cases m with
      | nil => simp at hm
      | cons b m => exact .cons (h 0 a b rfl rfl) (ih m (by simpa using hm) fun j r v h1 h2 => h (j + 1) r v (by simpa using h1) (by simpa using h2))
  refine key 0 rows vs (by omega) fun j r v h1 h2 => ?_
  obtain ⟨hi, rfl⟩ := hv j v h2
  exact hx j r hi h1
theorem call_nsrtK (hu : X.A.units + 16 < cLine) (hc : X.calm = true) : CallR X (.builtin "sorted") (rNSrtK X.prog X.w) := by
  intro pins s σ H vs us Q I r h
  obtain ⟨p, o, rows, β, enc, bs, rfl, hp, d, hx, q⟩ := h
  obtain ⟨u, rfl, ru⟩ := r.one
  cases ru
  obtain ⟨es, ep, hd, hraw, hz, he⟩ := ntab_raw I hp d
  have hl := hx.length
  rw [List.length_map, List.length_map] at hl
  have hz2 : rows.length ≤ sizeLine := d.2.1
  refine sorted_src (fun h' vs => dataKind (sortingHeap (h'.push (seqObj "list" vs.toArray 0)) h'.objs.size vs) (bs.map enc)) (KdlSrc.rawDict d.1) (by exact I.ok.hd hc) hraw (by omega) fun h' tk vs hk hlen hv => ?_
  exact sorted_fin hu I q hx (by omega) hk (vals_rows (fun r => L2.V.ref r.2.1) (fun e => e.key) hz hlen (fun i r hi hr => (he i r hi hr).1) hv)
theorem call_nsrtV (hu : X.A.units + 16 < cLine) (hc : X.calm = true) : CallR X (.builtin "sorted") (rNSrtV X.prog X.w) := by
  intro pins s σ H vs us Q I r h
  obtain ⟨v, p, o, rows, β, enc, bs, rfl, hv, hp, d, hx, q⟩ := h
  obtain ⟨u, rfl, ru⟩ := r.one
  cases ru
  obtain ⟨es, ep, hd, hraw, hz, he⟩ := ntab_raw I hp d
  obtain ⟨ho, _⟩ := (show ObjOk X.prog X.w H s.heap v (pinO v (viewObj p)) from I.hok v _ hv)
  have hl := hx.length
  rw [List.length_map, List.length_map] at hl
  have hz2 : rows.length ≤ sizeLine := d.2.1
  refine sorted_src (fun h' vs => dataKind (sortingHeap (h'.push (seqObj "list" vs.toArray 0)) h'.objs.size vs) (bs.map enc)) KdlSrc.rawValues (by exact I.ok.hd hc) ⟨⟨_, ho, rfl, rfl⟩, hraw⟩ (by omega) fun h' tk vs hk hlen hv => ?_
  exact sorted_fin hu I q hx (by omega) hk (vals_rows (fun r => r.2.2) (fun e => e.val) hz hlen (fun i r hi hr => (he i r hi hr).2) hv)

/-! ### {k: v for target in iter if ..}, the keys tuples -/
/-- the block's walk (tDc's twin) -/
def tDcN (P : Program) (w : World) (wi : TI) (g : TG) (tt : TT) (tk tv : TE) (vs : List Nat) : TE := fun σ H Q => wi σ H fun J H1 => ∀ D, H1 D = none → (D == sysModules) = false → ∃ W : Nat → Nat → Hp → Prop, (∃ m, W 0 m (upd H1 D (pinO D eDict))) ∧ ∀ i m H, W i m H →
  (J.stop i H ∧ Q (.ref D) H) ∨ (J.go i H ∧ ∃ Nx : Hp → Prop, (∀ H', Nx H' → ∃ m', m' < m ∧ W (i + 1) m' H') ∧ ∀ x H', J.yld i H x H' → g x (wipe σ vs) H' fun σ2 H2 => wipe σ2 vs = wipe σ vs ∧ tt σ2 H2 fun b H3 =>
    if b = true then tk σ2 H3 fun y H4 => tv σ2 H4 fun z H5 => ∃ rows k c, y = .ref c ∧ NTab P w H5 D rows ∧ KeyIn H5 k c ∧ rows.length < sizeLine ∧ ∀ o, NTab P w (upd H5 D (pinO D o)) D (putR rows k c z) → Nx (upd H5 D (pinO D o)) else Nx H3)
end
end Rn
end
section
set_option maxHeartbeats 4000000
/-! Dict comprehensions whose keys are tuples of any depth. -/
namespace Rn
open PySem PySem.Spec PyProof.Rows L2
section
variable {X : Cx}
/-- one entry more -/
def NStep (P : Program) (w : World) (D : Addr) (G : Hp → Prop) (y z : L2.V) (H5 : Hp) : Prop := ∃ rows k c, y = .ref c ∧ NTab P w H5 D rows ∧ KeyIn H5 k c ∧ rows.length < sizeLine ∧ ∀ o, NTab P w (upd H5 D (pinO D o)) D (putR rows k c z) → G (upd H5 D (pinO D o))
theorem n_step {pins : List (Addr × Obj)} {σ : L2.St} {H : Hp} {s : Shared} {D : Addr} {G : Hp → Prop} {y z : L2.V} {u r : Value} {E : Value → Shared → Prop} {Q : Unit → Shared → Prop} (hu : X.A.units + 9 < cLine) (I : Inv X pins σ H s) (ry : L2.RelV y u) (rz : L2.RelV z r) (h : NStep X.prog X.w D G y z H)
    (q : ∀ s' H', Inv X pins σ H' s' → G H' → Q () s') : wpAny (model X.prog X.w) X.A (dictSet D u r) Q E s := by
  obtain ⟨rows, k, c, rfl, ht, hk, hz, hg⟩ := h
  cases ry
  exact n_dset hu I ht hk hz rz fun s' o I' n' => q s' _ I' (hg o n')
theorem dcn_core {pins : List (Addr × Obj)} {s : Shared} {σ : L2.St} {H : Hp} {Q : VK} {ke ve tg iter : Expr} {ifs : List Expr} {sc : Scope} {own : List (Str × Nat)} {pos pos' : Pos} {wi : TI} {g : TG} {tt : TT} {tk tv : TE} {use : Option (Value → Sem Unit)} {Qf : Value → Shared → Prop}
    (hu : X.A.units + 9 < cLine) (calm : X.calm = true) (nd : X.N.Nodup) (inv : Inv X pins σ H s) (src : PI X tg iter wi) (blk : BlkOk X.N X.env.scope sc own)
    (pg : ∀ (s : Shared) (H : Hp) (C : Addr) (cl : List (Str × Addr)) (fp : List Addr), PG (X.blk s H sc (compEnvC sc cl C X.env) fp) tg g)
    (pt : ∀ (s : Shared) (H : Hp) (C : Addr) (cl : List (Str × Addr)) (fp : List Addr), PTs (X.blk s H sc (compEnvC sc cl C X.env) fp) ifs tt)
    (pk : ∀ (s : Shared) (H : Hp) (C : Addr) (cl : List (Str × Addr)) (fp : List Addr), PE (X.blk s H sc (compEnvC sc cl C X.env) fp) ke tk)
    (pv : ∀ (s : Shared) (H : Hp) (C : Addr) (cl : List (Str × Addr)) (fp : List Addr), PE (X.blk s H sc (compEnvC sc cl C X.env) fp) ve tv)
    (fold : ∀ x, foldedSetIterable iter X.env x = pure x) (start : tDcN X.prog X.w wi g tt tk tv (own.map (·.2)) σ H Q)
    (fin : ∀ D C s' m H', Inv X pins σ H' s' → Q (.ref D) H' → s'.heap.Ns C m → FpOk X pins H' C → compPost (model X.prog X.w) X.A X.xe use Qf (.ref D) C (.ok .next) s') :
    wpAny (model X.prog X.w) X.A (comprehension (.DictComp ke ve [⟨tg, iter, ifs, 0⟩] sc pos) sc X.env pos' newDict false (eval iter X.env) use) Qf X.xe s := by
  have cells : ∀ y ∈ sc.names, y.2 = .free → ∃ c, X.env.cells.lookup y.1 = some c := fun y hy e => (blk.free y hy e).elim (fun k => inv.ok.has _ (.inl k)) (fun k => inv.ok.has _ (.inr k))
  refine wpAny_comprehension_free (use := use) rfl fold (closure_ok cells) blk.kind (fun y hy e => (by rw [blk.uniq y hy, e])) (thn (src.run pins s σ H _ inv start) fun xv sA hA => thn hA fun itv sB hB => ?_)
  obtain ⟨it, fp, tn, J, HB, rfl, iB, T, stB, okB, go⟩ := hB
  refine wpAny_newObj_type (newEnv_comp ?_)
  generalize eD : sB.heap.objs.size = D
  have freeD : HB D = none := iB.hok.fresh (Nat.le_of_eq eD)
  have notS : (D == sysModules) = false := by rw [← eD]; exact beq_eq_false_iff_ne.mpr (Ne.symm (Nat.ne_of_lt iB.big))
  obtain ⟨W, ⟨m0, w0⟩, turn⟩ := go D freeD notS
  generalize eC : ({ sB with heap := sB.heap.push eDict } : Shared) = sC
  have hpC : sC.heap = sB.heap.push { cls := .type "dict", data := .dict #[] } := by rw [← eC]; rfl
  have iC : Inv X pins σ (upd HB D (pinO D eDict)) sC := by rw [← eC, ← eD]; exact laidN iB
  have below : ∀ b ∈ fp, b < sB.heap.objs.size := fun b hb => let ⟨_, e, _⟩ := T.obj _ _ stB b hb; Heap.lt_size e
  have okC : ∀ b ∈ fp, FpOk X pins (upd HB D (pinO D eDict)) b ∧ b < sC.heap.objs.size := fun b hb =>
    ⟨⟨(upd_ne (by rw [← eD]; exact Nat.ne_of_lt (below b hb))).trans (okB b hb).1, (okB b hb).2⟩, by rw [hpC, Heap.size_push]; exact Nat.lt_succ_of_lt (below b hb)⟩
  have stC : tn 0 sC.heap := T.keep _ _ _ stB fun b _ o e => by rw [hpC]; exact Heap.get?_push_of_some _ e
  have iE := block_start iC blk nd okC
  have qg := pg sC (upd HB D (pinO D eDict)) sC.heap.objs.size (cellsFrom (sC.heap.objs.size + 1) sc.names (cloFrom X.env.cells sc.names [])) fp
  have qt := pt sC (upd HB D (pinO D eDict)) sC.heap.objs.size (cellsFrom (sC.heap.objs.size + 1) sc.names (cloFrom X.env.cells sc.names [])) fp
  have qk := pk sC (upd HB D (pinO D eDict)) sC.heap.objs.size (cellsFrom (sC.heap.objs.size + 1) sc.names (cloFrom X.env.cells sc.names [])) fp
  have qv := pv sC (upd HB D (pinO D eDict)) sC.heap.objs.size (cellsFrom (sC.heap.objs.size + 1) sc.names (cloFrom X.env.cells sc.names [])) fp
  have eC' : ({ sB with heap := sB.heap.push { cls := .type "dict", data := .dict #[] } } : Shared) = sC := eC
  rw [eC']
  show codeAny _ _ (.compStart (.DictComp ke ve [⟨tg, iter, ifs, 0⟩] sc pos) 0 (.ref it) (.ref D) (compEnvC sc (cellsFrom (sC.heap.objs.size + 1) sc.names (cloFrom X.env.cells sc.names [])) sC.heap.objs.size X.env)) (compPost (model X.prog X.w) X.A X.xe use Qf (.ref D) sC.heap.objs.size) { sC with heap := pushCells (sC.heap.push { cls := .type "dict", data := .dict #[] }) sc.names }
  have noneC : ∀ b ∈ fp, (upd HB D (pinO D eDict)) b = none := fun b hb => (okC b hb).1.1
  generalize eEnv : compEnvC sc (cellsFrom (sC.heap.objs.size + 1) sc.names (cloFrom X.env.cells sc.names [])) sC.heap.objs.size X.env = ce at iE qg qt qk qv ⊢
  have locC : ce.locals = sC.heap.objs.size := by subst eEnv; rfl
  generalize eH : upd HB D (pinO D eDict) = HC at iC iE qg qt qk qv w0 noneC okC
  generalize eS : ({ sC with heap := pushCells (sC.heap.push { cls := .type "dict", data := .dict #[] }) sc.names } : Shared) = sE at iE ⊢
  have stE : tn 0 sE.heap := T.keep _ _ _ stC fun b _ o e => by rw [← eS]; exact pushCells_keeps _ _ _ _ (Heap.get?_push_of_some _ e)
  have fpAt : ∀ {σ' : L2.St} {H' : Hp} {s' : Shared}, Inv (X.blk sC HC sc ce fp) [] σ' H' s' → (∀ b ∈ fp, H' b = none) → ∀ b ∈ fp, FpOk (X.blk sC HC sc ce fp) [] H' b := fun {σ' H' s'} i' hn b hb =>
    ⟨hn b hb, (i'.ok.exf b hb).1, i'.ok.exfs b hb, .inl hb, fun x c e => (i'.ok.exf b hb).2 x c e, fun p hp => absurd (show p ∈ ([] : List (Addr × Obj)) ++ [] from hp) (by simp)⟩
  have loop : codeAny (model X.prog X.w) X.A (.compLoop (.DictComp ke ve [⟨tg, iter, ifs, 0⟩] sc pos) 0 (.ref it) (.ref D) ce) (compPost (model X.prog X.w) X.A X.xe use Qf (.ref D) sC.heap.objs.size) sE := by
    refine compLoop_anyD (fun n s' => ∃ i H', Inv (X.blk sC HC sc ce fp) [] (wipe σ (own.map (·.2))) H' s' ∧ tn i s'.heap ∧ (∀ b ∈ fp, H' b = none) ∧ W i n H') ?_ m0 ⟨0, HC, iE, stE, noneC, w0⟩
    rintro n s5 ⟨i, H5, i5, st5, none5, w5⟩
    rcases turn i n H5 w5 with ⟨stop, done⟩ | ⟨more, G, hG, step⟩
    · refine thnF (T.done (X.blk sC HC sc ce fp) rfl rfl rfl calm i [] s5 _ H5 (fun _ _ => False) i5 (fpAt i5 none5) st5 stop) fun r s6 ⟨hr, i6⟩ => ?_
      subst hr
      have back : Inv X pins σ H5 s6 := iC.call' (ch := fp) i6.os i6.base i6.hok i6.bare fun b hb => ⟨(okC b hb).1.2.2.2.1, (okC b hb).1.2.1, (okC b hb).1.2.2.2.2.1, (okC b hb).1.2.2.2.2.2⟩
      have freeC : H5 sC.heap.objs.size = none := locC ▸ (show H5 ce.locals = none from i6.free)
      obtain ⟨m, hn, _⟩ := i6.loc
      have hn' : s6.heap.Ns sC.heap.objs.size m := locC ▸ (show s6.heap.Ns ce.locals m from hn)
      exact fin D _ s6 m H5 back done hn' (iC.fpOk (Nat.le_refl _) freeC)
    · refine thnF (T.item (X.blk sC HC sc ce fp) rfl rfl rfl calm i [] s5 _ H5 (fun _ _ => False) i5 (fpAt i5 none5) st5 more) fun r s6 ⟨u, hr, h6⟩ => ?_
      subst hr
      refine thnF h6 fun _ s7 ⟨x, H7, i7, r7, y7, st7, none7⟩ => ?_
      have i7' := i7.pinned (fpAt i7 none7) (T.obj _ _ st7)
      refine thnF (qg.run _ s7 _ H7 x u _ i7' r7 (step x H7 y7)) fun _ s8 ⟨σ8, H8, i8, wp8, q8⟩ => thnF (qt.run _ s8 σ8 H8 _ i8 q8) fun b s9 ⟨H9, i9, q9⟩ => ?_
      have turned : ∀ (s' : Shared) (H' : Hp), Inv (X.blk sC HC sc ce fp) ([] ++ pinsAt fp s7.heap) σ8 H' s' → G H' → ∃ m, m < n ∧ ∃ i H', Inv (X.blk sC HC sc ce fp) [] (wipe σ (own.map (·.2))) H' s' ∧ tn i s'.heap ∧ (∀ b ∈ fp, H' b = none) ∧ W i m H' := fun s' H' i' gg => by
        obtain ⟨m', hm, w'⟩ := hG H' gg
        have held : ∀ b ∈ fp, ∀ o, s7.heap.get? b = some o → s'.heap.get? b = some o ∧ H' b = none := fun b hb o e =>
          let z := i'.pin (b, o) (List.mem_append_right _ (List.mem_append_right _ (mem_pinsAt hb e)))
          ⟨z.1, z.2.1⟩
        refine ⟨m', hm, i + 1, H', (i'.unpinned (pins := [])).weak (by rw [← wp8, wipe_length]) (fun j v e => ?_), T.keep _ _ _ st7 fun b hb o e => (held b hb o e).1, fun b hb => ?_, w'⟩
        · rw [← wp8] at e
          exact (wipe_some e).1
        · obtain ⟨o, e, _⟩ := T.obj _ _ st7 b hb
          exact (held b hb o e).2
      cases b with
      | false =>
        simp only [Bool.false_eq_true, if_false] at q9 ⊢
        exact turned _ _ i9 q9
      | true =>
        simp only [if_true] at q9 ⊢
        refine thnF (qk.run _ s9 σ8 H9 _ i9 q9) fun z s10 ⟨yk, H10, i10, r10, q10⟩ => thnF (qv.run _ s10 σ8 H10 _ i10 q10) fun z2 s11 ⟨yv, H11, i11, r11, st11⟩ => ?_
        exact n_step (X := X.blk sC HC sc ce fp) hu i11 r10 r11 st11 fun s12 H12 i12 gg => turned _ _ i12 gg
  exact codeAny_compStart_dict loop (T.self X.A 0 _ _ _ stE loop)
theorem pe_dcn {ke ve tg iter : Expr} {ifs : List Expr} {sc : Scope} {own : List (Str × Nat)} {pos : Pos} {wi : TI} {g : TG} {tt : TT} {tk tv : TE} (hu : X.A.units + 9 < cLine) (calm : X.calm = true) (nd : X.N.Nodup) (src : PI X tg iter wi) (blk : BlkOk X.N X.env.scope sc own)
    (pg : ∀ (s : Shared) (H : Hp) (C : Addr) (cl : List (Str × Addr)) (fp : List Addr), PG (X.blk s H sc (compEnvC sc cl C X.env) fp) tg g)
    (pt : ∀ (s : Shared) (H : Hp) (C : Addr) (cl : List (Str × Addr)) (fp : List Addr), PTs (X.blk s H sc (compEnvC sc cl C X.env) fp) ifs tt)
    (pk : ∀ (s : Shared) (H : Hp) (C : Addr) (cl : List (Str × Addr)) (fp : List Addr), PE (X.blk s H sc (compEnvC sc cl C X.env) fp) ke tk)
    (pv : ∀ (s : Shared) (H : Hp) (C : Addr) (cl : List (Str × Addr)) (fp : List Addr), PE (X.blk s H sc (compEnvC sc cl C X.env) fp) ve tv) (fold : ∀ x, foldedSetIterable iter X.env x = pure x := by intro _; rfl) :
    PE X (.DictComp ke ve [⟨tg, iter, ifs, 0⟩] sc pos) (tDcN X.prog X.w wi g tt tk tv (own.map (·.2))) := by
  refine ⟨fun pins s σ H Q I h => ?_⟩
  rw [arm_eval_DictComp]
  refine dcn_core hu calm nd I src blk pg pt pk pv fold h fun D C s' m H' I' q hn f => ⟨m, hn, fun h'' sb => ⟨.ref D, H', I'.turned (t' := s'.toks) (fun b o hb e => (sb.2 b hb).trans e) f.1 f.2.1 f.2.2.2.1 f.2.2.2.2.1 f.2.2.2.2.2, rfl, q⟩⟩
end
end Rn
end
section
set_option maxHeartbeats 4000000
/-! One thing that changes (a list, a table) in a def that is pure from without. -/
namespace Rn
open PySem L2

/-- d as it stood in B, B within the heap -/
def bA (B : Hp) (d : PyData) : Ab := ⟨fun v H => Dq B d v ∧ Same B H, fun v _ _ e h => ⟨h.1, h.2.trans e⟩⟩
/-- a store of such things and of fixed values: it holds while B stands -/
inductive Stb (B : Hp) : Sto → Prop
  | nil : Stb B []
  | no {S : Sto} : Stb B S → Stb B (none :: S)
  | c {S : Sto} {P : Ab} (h : ∀ v H H', Same B H' → P.p v H → P.p v H') : Stb B S → Stb B (some P :: S)
theorem Stb.d {B : Hp} {S : Sto} {d : PyData} (t : Stb B S) : Stb B (some (bA B d) :: S) := .c (fun _ _ _ e h => ⟨h.1, e⟩) t
theorem Stb.v {B : Hp} {S : Sto} {x : V} (t : Stb B S) : Stb B (some (vA x) :: S) := .c (fun _ _ _ _ h => h) t
theorem Stb.o {B B' : Hp} {S : Sto} {d : PyData} (eb : Same B' B) (t : Stb B S) : Stb B (some (bA B' d) :: S) := .c (fun _ _ _ e h => ⟨h.1, eb.trans e⟩) t
theorem Stb.get {B : Hp} : ∀ {S : Sto}, Stb B S → ∀ (i : Nat) (P : Ab), S[i]? = some (some P) → ∀ v H H', Same B H' → P.p v H → P.p v H'
  | _, .nil, _, _, h => by simp at h
  | _, .no t, 0, _, h => by simp at h
  | _, .no t, i + 1, P, h => Stb.get t i P (by simpa using h)
  | _, .c q t, 0, _, h => by simp at h; subst h; exact q
  | _, .c q t, i + 1, P, h => Stb.get t i P (by simpa using h)
theorem Hold.base {B H H' : Hp} {S : Sto} {σ : St} (st : Stb B S) (h : Hold H S σ) (e : Same B H') : Hold H' S σ := fun i P hi => by
  obtain ⟨v, hv, hp⟩ := h i P hi
  exact ⟨v, hv, st.get i P hi v H H' e hp⟩
theorem ed_varB {B : Hp} {S : Sto} {d : PyData} {i : Nat} (h : S[i]? = some (some (bA B d))) : Ed (tVar i) S d := fun σ H Q _ hh k =>
  let ⟨v, h1, h2⟩ := hh i _ h
  ⟨v, h1, k v H (Same.refl H) (Dq.mono h2.2 d v h2.1)⟩
/-- a slot's fact, told anew -/
theorem Hold.slot {H : Hp} {S : Sto} {σ : St} {i : Nat} {P P' : Ab} (h : Hold H S σ) (hi : S[i]? = some (some P)) (w : ∀ v, P.p v H → P'.p v H) : Hold H (S.set i (some P')) σ := fun j R hj => by
  by_cases e : i = j
  · subst e
    have hl : i < S.length := (List.getElem?_eq_some_iff.mp hi).1
    rw [List.getElem?_set_self hl] at hj
    cases hj
    obtain ⟨v, hv, hp⟩ := h i P hi
    exact ⟨v, hv, w v hp⟩
  · rw [List.getElem?_set_ne e] at hj
    exact h j R hj
theorem bA_of {H : Hp} {d : PyData} (v : V) (h : (dA d).p v H) : (bA H d).p v H := ⟨h, Same.refl H⟩
/-- the heap but for p -/
def cut (p : Addr) (H : Hp) : Hp := fun a => if a = p then none else H a
theorem cut_self {p : Addr} {H : Hp} : cut p H p = none := if_pos rfl
theorem cut_ne {p a : Addr} {H : Hp} (h : a ≠ p) : cut p H a = H a := if_neg h
theorem cut_same {p : Addr} {H : Hp} : Same (cut p H) H := fun a u h => by
  by_cases e : a = p
  · subst e; rw [cut_self] at h; cases h
  · rwa [cut_ne e] at h
theorem same_cut {p : Addr} {B H : Hp} (e : Same B H) (hp : B p = none) : Same B (cut p H) := fun a u h => by
  rw [cut_ne (ne_of_none h hp)]
  exact e a u h
theorem Same.upd {p : Addr} {B H : Hp} {o : HO} (e : Same B H) (hp : B p = none) : Same B (upd H p o) := Same.mut e hp
/-- what is walked does not lean on p -/
def SrcP (p : Addr) (wi : TI) (S : Sto) (ds : List PyData) : Prop := ∀ (σ : St) (H : Hp) (R : It → Hp → Prop) (o : HO), σ.length = S.length → Hold H S σ → H p = some o → (∀ ys, o ≠ .tup ys) →
  (∀ J H1, Same H H1 → (∀ H', Same (cut p H1) H' → Val J ds H') → R J H1) → wi σ H R
section
variable {S : Sto} {te : TE} {tr : TA} {ds : List PyData} {p : Addr} {K : PySem.W.Frag}
theorem tk_cut {H1 H' : Hp} {o : HO} (h : H1 p = some o) (ho : ∀ ys, o ≠ .tup ys) (e : Same (cut p H1) H') : Tk H1 H' := fun a xs ha => e a _ (by
  rw [cut_ne fun q => ?_]
  · exact ha
  · subst q
    rw [h] at ha
    exact ho xs (Option.some.inj ha))
theorem srcP_new (h : Ef te S ds) (hn : noLs ds = true) : SrcP p (iList K te) S ds := fun σ H R o hl hh hp ho k =>
  h σ H _ hl hh fun q xs H1 hq e1 h1 h2 => by
    have hqp : q ≠ p := fun z => by rw [z, hp] at hq; cases hq
    exact ⟨q, rfl, ⟨xs, SqL.of h1⟩, k _ H1 e1 fun H' e' => val_list' (e' _ _ (by rw [cut_ne hqp]; exact h1)) (DqAll.tk (tk_cut (e1 _ _ hp) ho e') _ _ hn h2)⟩
theorem srcP_varL {B : Hp} {i : Nat} (h : S[i]? = some (some (bA B (.list ds)))) (hp : B p = none) : SrcP p (iList K (tVar i)) S ds := fun σ H R o hl hh hpo ho k => by
  obtain ⟨v, h1, ⟨a, xs, rfl, ha, hx⟩, h2⟩ := hh i _ h
  exact ⟨_, h1, a, rfl, ⟨xs, SqL.of (h2 _ _ ha)⟩, k _ H (Same.refl H) fun H' e' => val_list' ((same_cut h2 hp).trans e' _ _ ha) (hx.mono ((same_cut h2 hp).trans e'))⟩
theorem srcP_varT {B : Hp} {i : Nat} (h : S[i]? = some (some (bA B (.tuple ds)))) (hp : B p = none) : SrcP p (iTup K (tVar i)) S ds := fun σ H R o hl hh hpo ho k => by
  obtain ⟨v, h1, ⟨a, xs, rfl, ha, hx⟩, h2⟩ := hh i _ h
  exact ⟨_, h1, a, rfl, ⟨xs, SqT.of (h2 _ _ ha)⟩, k _ H (Same.refl H) fun H' e' => val_tup ((same_cut h2 hp).trans e' _ _ ha) (hx.mono ((same_cut h2 hp).trans e'))⟩
/-- a for whose body changes the thing at p; B: what the locals stand in, B1: what stays -/
theorem for_mutB {α : Type} {wi : TI} {g : TG} {t : TS} {js : List Nat} {D : Ends} {σ : St} {H B B1 : Hp} {S : Sto} (xs : List α) (enc : α → PyData) (Y : α → Sto) (A : Hp → List α → Hp → Prop) (st : Stb B S) (hA : ∀ B2 pre H', A B2 pre H' → ∃ o, H' p = some o ∧ ∀ ys, o ≠ .tup ys) (hAm : ∀ B2 pre H' H2, Same H' H2 → A B2 pre H' → A B2 pre H2)
    (src : SrcP p wi (S) (xs.map enc)) (hl : σ.length = S.length) (hh : Hold H (S) σ) (hb : Same B B1) (hB : Same B1 H) (hp : B1 p = none) (A0 : ∀ B2, Same B1 B2 → A B2 [] H)
    (tg : ∀ x, x ∈ xs → Tg g (enc x) (S) (Y x) js)
    (body : ∀ (B2 : Hp) pre x post (σ' : St) (H' : Hp) (D' : Ends), xs = pre ++ x :: post → Same B1 B2 → B2 p = none → σ'.length = (Y x).length → Hold H' (Y x) σ' → Same B2 H' → A B2 pre H' →
      (∀ σ2 H2, σ2.length = S.length → Hold H2 (S) σ2 → Same B2 H2 → A B2 (pre ++ [x]) H2 → D'.nx σ2 H2) → t D' σ' H')
    (fin : ∀ B2 σ' H', σ'.length = S.length → Hold H' (S) σ' → Same B1 H' → A B2 xs H' → D.nx σ' H') : tFor wi g t D σ H := by
  obtain ⟨o, ho, hno⟩ := hA B1 [] H (A0 B1 (Same.refl B1))
  refine src σ H _ o hl hh ho hno fun J H1 e1 val => ?_
  have hBB : Same B1 (cut p H1) := same_cut (hB.trans e1) hp
  refine ⟨fun i m σ' H' => m = xs.length - i ∧ i ≤ xs.length ∧ σ'.length = S.length ∧ Hold H' (S) σ' ∧ Same (cut p H1) H' ∧ A (cut p H1) (xs.take i) H', ⟨xs.length, by simp, Nat.zero_le _, hl, hh.mono e1, cut_same, hAm _ _ _ _ e1 (A0 _ hBB)⟩, ?_⟩
  rintro i m σ' H' ⟨rfl, hi, hl', hh', e', a'⟩
  have V := val H' e'
  by_cases hlt : i < xs.length
  · refine .inr ⟨V.go i (by simpa using hlt), fun σ2 H2 => i + 1 ≤ xs.length ∧ σ2.length = S.length ∧ Hold H2 (S) σ2 ∧ Same (cut p H1) H2 ∧ A (cut p H1) (xs.take (i + 1)) H2, fun σ2 H2 q => ⟨xs.length - (i + 1), by omega, rfl, q⟩, fun x H2 y => ?_⟩
    obtain ⟨e2, d, hd, dx⟩ := V.yld i x H2 (by simpa using hlt) y
    have hxi : xs[i]? = some xs[i] := List.getElem?_eq_getElem hlt
    have hd' : d = enc xs[i] := by
      rw [List.getElem?_map, hxi] at hd
      exact (Option.some.inj hd).symm
    subst hd'
    have etk : xs.take (i + 1) = xs.take i ++ [xs[i]] := by rw [List.take_add_one, hxi]; rfl
    have e0 : xs = xs.take i ++ xs[i] :: xs.drop (i + 1) := by rw [← List.drop_eq_getElem_cons hlt, List.take_append_drop]
    refine tg _ (List.getElem_mem hlt) x σ' H2 _ hl' (hh'.mono e2) dx fun σ2 l2 h2 _ _ => ?_
    exact body (cut p H1) _ _ _ σ2 H2 _ e0 hBB cut_self l2 h2 (e'.trans e2) (hAm _ _ _ _ e2 a') fun σ3 H3 l3 h3 e3 a3 => ⟨hlt, l3, h3, e3, by rw [etk]; exact a3⟩
  · have e : i = xs.length := by omega
    subst e
    refine .inl ⟨by have := V.stop; rw [List.length_map] at this; exact this, ?_⟩
    rw [List.take_length] at a'
    exact fin _ σ' H' hl' hh' (hBB.trans e') a'
theorem for_mut {α : Type} {wi : TI} {g : TG} {t : TS} {js : List Nat} {D : Ends} {σ : St} {H B B1 : Hp} {S : Sto} (xs : List α) (enc : α → PyData) (Y : α → Sto) (A : List α → Hp → Prop) (st : Stb B S) (hA : ∀ pre H', A pre H' → ∃ o, H' p = some o ∧ ∀ ys, o ≠ .tup ys) (hAm : ∀ pre H' H2, Same H' H2 → A pre H' → A pre H2)
    (src : SrcP p wi (S) (xs.map enc)) (hl : σ.length = S.length) (hh : Hold H (S) σ) (hb : Same B B1) (hB : Same B1 H) (hp : B1 p = none) (A0 : A [] H)
    (tg : ∀ x, x ∈ xs → Tg g (enc x) (S) (Y x) js)
    (body : ∀ (B2 : Hp) pre x post (σ' : St) (H' : Hp) (D' : Ends), xs = pre ++ x :: post → Same B1 B2 → B2 p = none → σ'.length = (Y x).length → Hold H' (Y x) σ' → Same B2 H' → A pre H' →
      (∀ σ2 H2, σ2.length = S.length → Hold H2 (S) σ2 → Same B2 H2 → A (pre ++ [x]) H2 → D'.nx σ2 H2) → t D' σ' H')
    (fin : ∀ σ' H', σ'.length = S.length → Hold H' (S) σ' → Same B1 H' → A xs H' → D.nx σ' H') : tFor wi g t D σ H := for_mutB xs enc Y (fun _ => A) st (fun _ => hA) (fun _ => hAm) src hl hh hb hB hp (fun _ _ => A0) tg body (fun _ => fin)
theorem go_for {α : Type} {wi : TI} {g : TG} {t u : TS} {js : List Nat} {D : Ends} {σ : St} {H B B1 : Hp} {S : Sto} (xs : List α) (enc : α → PyData) (Y : α → Sto) (A : List α → Hp → Prop) (st : Stb B S) (hA : ∀ pre H', A pre H' → ∃ o, H' p = some o ∧ ∀ ys, o ≠ .tup ys) (hAm : ∀ pre H' H2, Same H' H2 → A pre H' → A pre H2)
    (src : SrcP p wi (S) (xs.map enc)) (hl : σ.length = S.length) (hh : Hold H (S) σ) (hb : Same B B1) (hB : Same B1 H) (hp : B1 p = none) (A0 : A [] H)
    (tg : ∀ x, x ∈ xs → Tg g (enc x) (S) (Y x) js)
    (body : ∀ (B2 : Hp) pre x post (σ' : St) (H' : Hp) (D' : Ends), xs = pre ++ x :: post → Same B1 B2 → B2 p = none → σ'.length = (Y x).length → Hold H' (Y x) σ' → Same B2 H' → A pre H' →
      (∀ σ2 H2, σ2.length = S.length → Hold H2 (S) σ2 → Same B2 H2 → A (pre ++ [x]) H2 → D'.nx σ2 H2) → t D' σ' H')
    (fin : ∀ σ' H', σ'.length = S.length → Hold H' (S) σ' → Same B1 H' → A xs H' → u D σ' H') : tSeq (tFor wi g t) u D σ H := for_mut (D := { D with nx := u D }) xs enc Y A st hA hAm src hl hh hb hB hp A0 tg body fin
end

/-! ### tables: Er-level -/
section
variable {S : Sto} {ta tb te tk tv : TE} {P : Program} {w : World}
/-- a table whose keys are told by M -/
def aMem (P : Program) (w : World) (M : NestedKey → Bool) : Ab := ⟨fun v H => ∃ p rows, v = .ref p ∧ NTab P w H p rows ∧ ∀ k, (valR rows k).isSome = M k, fun _ _ _ e ⟨p, rows, h1, h2, h3⟩ => ⟨p, rows, h1, h2.mono e, h3⟩⟩
/-- a datum that may be a key -/
def Kd (d : PyData) : Prop := (∃ ds, d = .tuple ds) ∧ noL d = true ∧ (keyOf d).depth ≤ 8
theorem Kd.ref {d : PyData} {v : V} {H : Hp} (h : Kd d) (hd : Dq H d v) : ∃ b, v = .ref b ∧ KeyIn H (keyOf d) b := by
  obtain ⟨⟨ds, rfl⟩, h2, h3⟩ := h
  obtain ⟨a, xs, rfl, q⟩ := id hd
  exact ⟨a, rfl, _, rfl, hd, h2, h3⟩
theorem ed_nin {d : PyData} {M : NestedKey → Bool} (ha : Ed ta S d) (hb : Er tb S (aMem P w M)) (hd : Kd d) : Ed (tOp (rNIn P w) ta tb) S (.bool (M (keyOf d))) :=
  er_op ha hb fun x y H Q px py k => by
    obtain ⟨b, rfl, kb⟩ := hd.ref px
    obtain ⟨p, rows, rfl, ht, hm⟩ := py
    exact ⟨b, p, rows, _, rfl, rfl, ht, kb, k _ H (Same.refl H) (by rw [hm]; rfl)⟩
theorem valR_put (rows : List NRow) (k : NestedKey) (b : Addr) (v : V) (j : NestedKey) : (valR (putR rows k b v) j).isSome = ((valR rows j).isSome || decide (k = j)) := by
  have hany : ∀ (rs : List NRow) (i : NestedKey), (valR rs i).isSome = rs.any fun r => decide (r.1 = i) := by
    intro rs i
    induction rs with
    | nil => rfl
    | cons r rs ih =>
      rw [List.any_cons]
      by_cases e : r.1 = i
      · simp [valR, List.find?_cons, e]
      · have : valR (r :: rs) i = valR rs i := by simp [valR, List.find?_cons, e]
        rw [this, ih]; simp [e]
  rw [hany, hany]
  unfold putR
  rw [hany]
  by_cases a : (rows.any fun r => decide (r.1 = k)) = true
  · rw [if_pos a, List.any_map]
    have e : (fun r : NRow => decide ((if r.1 = k then (r.1, r.2.1, v) else r).1 = j)) = fun r => decide (r.1 = j) := by
      funext r
      by_cases e : r.1 = k
      · rw [if_pos e]
      · rw [if_neg e]
    have e' : ((fun r : NRow => decide (r.1 = j)) ∘ fun r : NRow => if r.1 = k then (r.1, r.2.1, v) else r) = fun r : NRow => decide (r.1 = j) := e
    rw [e']
    by_cases q : k = j
    · subst q; rw [a]; rfl
    · simp [q]
  · rw [if_neg a, List.any_append]
    simp
theorem Tg.weak {g : TG} {d : PyData} {S S' : Sto} {js : List Nat} (h : Tg g d S S' js) : Tg g d S S' js := h
/-- {k: v for .. in ..}, what its keys are -/
theorem er_dcn {α : Type} {wi : TI} {g : TG} {vs js : List Nat} {Pv : α → Ab} (xs : List α) (enc : α → PyData) (h : α → PyData) (Y : α → Sto) (hw : Src wi S (xs.map enc)) (hz : xs.length ≤ 1000000) (hj : ∀ j ∈ js, j ∈ vs)
    (tg : ∀ x ∈ xs, Tg g (enc x) (wipeS S vs) (Y x) js) (hk : ∀ x ∈ xs, Ed tk (Y x) (h x)) (hv : ∀ x ∈ xs, Er tv (Y x) (Pv x)) (hn : ∀ x ∈ xs, Kd (h x)) :
    Er (tDcN P w wi g tYes tk tv vs) S (aMem P w fun k => xs.any fun x => decide (keyOf (h x) = k)) := fun σ H Q hl hh kk => hw σ H _ hl hh fun J H1 e1 val D hD hs => by
  refine ⟨fun i m H' => m = xs.length - i ∧ i ≤ xs.length ∧ Same H1 H' ∧ ∃ rows, NTab P w H' D rows ∧ rows.length ≤ i ∧ ∀ k, (valR rows k).isSome = (xs.take i).any fun x => decide (keyOf (h x) = k), ⟨xs.length, by simp, Nat.zero_le _, Same.new hD, [], ntab_new hs upd_same, Nat.zero_le _, fun k => rfl⟩, ?_⟩
  rintro i m H' ⟨rfl, hi, e', rows, ht, hr, hm⟩
  have V := val H' e'
  by_cases hlt : i < xs.length
  · refine .inr ⟨V.go i (by simpa using hlt), fun H2 => i + 1 ≤ xs.length ∧ Same H1 H2 ∧ ∃ rows, NTab P w H2 D rows ∧ rows.length ≤ i + 1 ∧ ∀ k, (valR rows k).isSome = (xs.take (i + 1)).any fun x => decide (keyOf (h x) = k), fun H2 q => ⟨xs.length - (i + 1), by omega, rfl, q⟩, fun x H2 y => ?_⟩
    obtain ⟨e2, d, hd, dx⟩ := V.yld i x H2 (by simpa using hlt) y
    have hxi : xs[i]? = some xs[i] := List.getElem?_eq_getElem hlt
    have hd' : d = enc xs[i] := by
      rw [List.getElem?_map, hxi] at hd
      exact (Option.some.inj hd).symm
    subst hd'
    have hmem : xs[i] ∈ xs := List.getElem_mem hlt
    have etk : xs.take (i + 1) = xs.take i ++ [xs[i]] := by rw [List.take_add_one, hxi]; rfl
    refine tg _ hmem x (wipe σ vs) H2 _ (by rw [wipe_length, wipeS_length, hl]) ((hh.wipe vs).mono ((e1.trans e').trans e2)) dx fun σ2 l2 h2 m2 w2 => ⟨(w2 vs hj).trans (wipe_wipe σ vs), ?_⟩
    simp only [tYes, if_true]
    refine hk _ hmem σ2 H2 _ l2 h2 fun y H3 e3 dy => hv _ hmem σ2 H3 _ l2 (h2.mono e3) fun z H4 e4 dz => ?_
    obtain ⟨c, rfl, kc⟩ := (hn _ hmem).ref (Dq.mono e4 _ _ dy)
    have ht4 := ((ht.mono e2).mono e3).mono e4
    refine ⟨rows, _, c, rfl, ht4, kc, by have := (by decide : 1000000 < sizeLine); omega, fun o n => ⟨hlt, ?_, _, n, Nat.le_trans (putR_length _ _ _ _) (by omega), fun k => ?_⟩⟩
    · exact Same.mut (((e'.trans e2).trans e3).trans e4) hD
    · rw [valR_put, hm, etk, List.any_append]
      simp
  · have e : i = xs.length := by omega
    subst e
    refine .inl ⟨by have := V.stop; rw [List.length_map] at this; exact this, ?_⟩
    rw [List.take_length] at hm
    exact kk _ H' (e1.trans e') ⟨D, rows, rfl, ht, hm⟩
end
end Rn
end
section
set_option maxHeartbeats 4000000
/-! Slices of lists or tuples, zip of any two, blocks that are passed. -/
namespace Rn
open PySem L2
theorem sIx_k (n k : Nat) : HT.sIx n 0 (some (k : Int)) = min k n := by
  show (if (k : Int) < 0 then ((k : Int) + (n : Int)).toNat else min (k : Int).toNat n) = min k n
  rw [if_neg (by omega), Int.toNat_natCast]
theorem cutD_from (ds : List PyData) (k : Nat) : cutD ds (some (k : Int)) none = ds.drop k := by
  unfold cutD
  rw [sIx_k]
  show (ds.drop (min k ds.length)).take (ds.length - min k ds.length) = _
  rw [List.take_of_length_le (by rw [List.length_drop]; exact Nat.le_refl _)]
  by_cases h : k ≤ ds.length
  · rw [Nat.min_eq_left h]
  · rw [Nat.min_eq_right (by omega), List.drop_length, List.drop_eq_nil_of_le (by omega)]
theorem cutD_to (ds : List PyData) (k : Nat) : cutD ds none (some (k : Int)) = ds.take k := by
  unfold cutD
  have e : HT.sIx ds.length ds.length (some (k : Int)) = min k ds.length := by
    show (if (k : Int) < 0 then ((k : Int) + (ds.length : Int)).toNat else min (k : Int).toNat ds.length) = _
    rw [if_neg (by omega), Int.toNat_natCast]
  rw [e]
  show (ds.drop 0).take (min k ds.length - 0) = _
  rw [List.drop_zero, Nat.sub_zero]
  by_cases h : k ≤ ds.length
  · rw [Nat.min_eq_left h]
  · rw [Nat.min_eq_right (by omega), List.take_length, List.take_of_length_le (by omega)]
theorem cutD_last (ds : List PyData) : cutD ds (some (-1)) none = ds.drop (ds.length - 1) := by
  unfold cutD
  have e : HT.sIx ds.length 0 (some (-1)) = ds.length - 1 := by
    show (if (-1 : Int) < 0 then ((-1 : Int) + (ds.length : Int)).toNat else min (-1 : Int).toNat ds.length) = _
    rw [if_pos (by omega)]
    omega
  rw [e]
  show (ds.drop (ds.length - 1)).take (ds.length - (ds.length - 1)) = _
  rw [List.take_of_length_le (by rw [List.length_drop]; exact Nat.le_refl _)]
theorem cutD_init (ds : List PyData) : cutD ds none (some (-1)) = ds.dropLast := by
  unfold cutD
  have e : HT.sIx ds.length ds.length (some (-1)) = ds.length - 1 := by
    show (if (-1 : Int) < 0 then ((-1 : Int) + (ds.length : Int)).toNat else min (-1 : Int).toNat ds.length) = _
    rw [if_pos (by omega)]
    omega
  rw [e]
  show (ds.drop 0).take (ds.length - 1 - 0) = _
  rw [List.drop_zero, Nat.sub_zero, List.dropLast_eq_take]
section
variable {S : Sto} {ta tb te : TE} {tr : TA} {tl th : TO} {lo hi : Option Int} {ds es : List PyData} {K : PySem.W.Frag}
abbrev rSlB (K : PySem.W.Frag) : V → Option Int → Option Int → Hp → VK → Prop := fun x lo hi H Q => rSlL K x lo hi H Q ∨ rSlA K x lo hi H Q
theorem sl_both {X : Cx} : SlR X (rSlB X.K) := SlR.or sl_list sl_tupA
theorem ed_slBL (h : Ed te S (.list ds)) (hlo : Eo tl S lo) (hhi : Eo th S hi) : Ed (tSl (rSlB K) te tl th) S (.list (cutD ds lo hi)) := fun σ H Q hl hh k =>
  h σ H _ hl hh fun v H1 e1 p1 => hlo σ H1 _ hl (hh.mono e1) fun H2 e2 => hhi σ H2 _ hl (hh.mono (e1.trans e2)) fun H3 e3 => by
    obtain ⟨a, xs, rfl, h1, h2⟩ := Dq.mono (e2.trans e3) _ _ p1
    exact .inl ⟨a, xs, rfl, SqL.of h1, fun p hp => k _ _ (Same.mut ((e1.trans e2).trans e3) (Same.free ((e1.trans e2).trans e3) hp)) ⟨p, _, rfl, upd_same, (cut_of h2).mono (Same.new hp)⟩⟩
theorem ed_slBT (h : Ed te S (.tuple ds)) (hlo : Eo tl S lo) (hhi : Eo th S hi) : Ed (tSl (rSlB K) te tl th) S (.tuple (cutD ds lo hi)) := fun σ H Q hl hh k =>
  h σ H _ hl hh fun v H1 e1 p1 => hlo σ H1 _ hl (hh.mono e1) fun H2 e2 => hhi σ H2 _ hl (hh.mono (e1.trans e2)) fun H3 e3 => by
    obtain ⟨a, xs, rfl, h1, h2⟩ := Dq.mono (e2.trans e3) _ _ p1
    refine .inr ⟨a, xs, rfl, SqT.of h1, fun e => k _ H3 ((e1.trans e2).trans e3) ⟨a, xs, rfl, h1, ?_⟩, fun _ p hp => k _ _ (Same.mut ((e1.trans e2).trans e3) (Same.free ((e1.trans e2).trans e3) hp)) ⟨p, _, rfl, upd_same, (cut_of h2).mono (Same.new hp)⟩⟩
    have q := cut_of (lo := lo) (hi := hi) h2
    have e' : cutV xs lo hi = xs := by
      unfold cutV
      rw [e.1, e.2]
      simp
    rw [e'] at q
    exact q
theorem src_zipLL (h : Ea tr S [.list ds, .list es]) : Src (RZ.iZipA K tr) S ((ds.zip es).map fun p => .tuple [p.1, p.2]) := fun σ H R hlen hh k =>
  h σ H _ hlen hh fun vs H1 e1 p1 => by
    obtain ⟨v, w, rfl, ⟨a, xs, rfl, ha, hx⟩, ⟨b, ys, rfl, hb, hy⟩⟩ := two_of p1
    refine ⟨a, b, xs, ys, rfl, .inl ⟨SqL.of ha, SqL.of hb, k _ H1 e1 fun H' e' => ?_⟩⟩
    have lx := hx.length
    have ly := hy.length
    refine ⟨fun i hi => ?_, ⟨xs, ys, SqL.of (e' _ _ ha), SqL.of (e' _ _ hb), by simp; omega⟩, fun i x H2 hi y => ?_⟩
    · simp at hi
      obtain ⟨x, hx1, _⟩ := hx.get (List.getElem?_eq_getElem (show i < ds.length by omega))
      obtain ⟨y, hy1, _⟩ := hy.get (List.getElem?_eq_getElem (show i < es.length by omega))
      exact ⟨xs, ys, x, y, SqL.of (e' _ _ ha), SqL.of (e' _ _ hb), hx1, hy1⟩
    · obtain ⟨T, x1, y1, rfl, hT, rfl, q1, q2⟩ := y
      obtain ⟨d1, hd1, dq1⟩ := (hx.mono e').get_v (q1 xs (SqL.of (e' _ _ ha)))
      obtain ⟨d2, hd2, dq2⟩ := (hy.mono e').get_v (q2 ys (SqL.of (e' _ _ hb)))
      refine ⟨Same.new hT, .tuple [d1, d2], by simp [List.getElem?_zip_eq_some, hd1, hd2], T, [x1, y1], rfl, upd_same, ?_⟩
      exact .cons (Dq.mono (Same.new hT) _ _ dq1) (.one (Dq.mono (Same.new hT) _ _ dq2))
end
/-- a pair of walks, told in pairs -/
theorem zip_map {α β : Type} (f : α → PyData) (g : β → PyData) (xs : List α) (ys : List β) : ((xs.map f).zip (ys.map g)).map (fun p => PyData.tuple [p.1, p.2]) = (xs.zip ys).map fun p => .tuple [f p.1, g p.2] := by
  rw [List.zip_map, List.map_map]
  rfl
theorem zipIdx_map {α : Type} (f : α → PyData) (xs : List α) : ((xs.map f).zipIdx).map (fun p => PyData.tuple [.int (p.2 : Nat), p.1]) = xs.zipIdx.map fun p => .tuple [eN p.2, f p.1] := by
  rw [List.zipIdx_map, List.map_map]
  rfl
end Rn
end
section
set_option maxHeartbeats 4000000
/-! A dict comprehension stored at once; walks with the written part named; lists that grow. -/
namespace Rn
open PySem PySem.Spec PyProof.Rows L2
section
variable {X : Cx}
theorem w_dcn {ke ve tg iter : Expr} {ifs : List Expr} {sc : Scope} {pos : Pos} {wi : TI} {g : TG} {tt : TT} {tk tv : TE} {k : Nat} (hr : Room k X.A) {own : List (Str × Nat)} (calm : X.calm = true) (nd : X.N.Nodup) (src : PI X tg iter wi) (blk : BlkOk X.N X.env.scope sc own)
    (pg : ∀ (s : Shared) (H : Hp) (C : Addr) (cl : List (Str × Addr)) (fp : List Addr), PG (X.blk s H sc (compEnvC sc cl C X.env) fp) tg g)
    (pt : ∀ (s : Shared) (H : Hp) (C : Addr) (cl : List (Str × Addr)) (fp : List Addr), PTs (X.blk s H sc (compEnvC sc cl C X.env) fp) ifs tt)
    (pk : ∀ (s : Shared) (H : Hp) (C : Addr) (cl : List (Str × Addr)) (fp : List Addr), PE (X.blk s H sc (compEnvC sc cl C X.env) fp) ke tk)
    (pv : ∀ (s : Shared) (H : Hp) (C : Addr) (cl : List (Str × Addr)) (fp : List Addr), PE (X.blk s H sc (compEnvC sc cl C X.env) fp) ve tv) (fold : ∀ x, foldedSetIterable iter X.env x = pure x := by intro _; rfl) :
    PE X (.DictComp ke ve [⟨tg, iter, ifs, 0⟩] sc pos) (tDcN X.prog X.w wi g tt tk tv (own.map (·.2))) := pe_dcn (by have := hr.units; omega) calm nd src blk pg pt pk pv fold
theorem wi_tup {l tg : Expr} {tl : TE} (K : PySem.W.Frag) (hl : PE X l tl) (hK : X.K = K := by rfl) : PI X tg l (iTup K tl) := by
  subst hK
  exact pi_tup hl
theorem wi_list {l tg : Expr} {tl : TE} (K : PySem.W.Frag) (hl : PE X l tl) (hK : X.K = K := by rfl) : PI X tg l (iList K tl) := by
  subst hK
  exact pi_list hl
end
/-! ### a list that grows -/
section
variable {S : Sto} {te : TE} {tr : TA} {K : PySem.W.Frag} {D : Ends} {σ : L2.St} {H : Hp} {p : Addr} {i : Nat} {xs : List L2.V} {ds : List PyData}
/-- x.extend(l), l new -/
theorem do_extend (hx : σ[i]? = some (some (.ref p))) (hp : H p = some (.lst xs)) (hl : σ.length = S.length) (hh : Hold H S σ) (h : Ef te S ds) (hz : xs.length + ds.length ≤ sizeLine)
    (k : ∀ ys H1, Same H H1 → DqAll H1 ds ys → D.nx σ (upd H1 p (.lst (xs ++ ys)))) : tDrop (tBM K "list" rExtend (tVar i) (tCons te tNil)) D σ H := by
  refine ⟨_, hx, .inl ⟨rfl, xs, SqL.of hp⟩, h σ H _ hl hh fun q ys H1 hq e h1 h2 => ?_⟩
  exact ⟨p, q, xs, ys, rfl, rfl, e _ _ hp, h1, by rw [h2.length]; exact hz, k ys H1 e h2⟩
/-- x.append(d) -/
theorem do_append {d : PyData} (hx : σ[i]? = some (some (.ref p))) (hp : H p = some (.lst xs)) (hl : σ.length = S.length) (hh : Hold H S σ) (h : Ed te S d) (hz : xs.length < sizeLine)
    (k : ∀ y H1, Same H H1 → Dq H1 d y → D.nx σ (upd H1 p (.lst (xs ++ [y])))) : tDrop (tBM K "list" rAppend (tVar i) (tCons te tNil)) D σ H := by
  refine ⟨_, hx, .inl ⟨rfl, xs, SqL.of hp⟩, h σ H _ hl hh fun y H1 e h1 => ?_⟩
  exact ⟨p, xs, y, rfl, rfl, e _ _ hp, hz, k y H1 e h1⟩
end
/-- the list at p stands for ds, without lists -/
def LstAt (p : Addr) (ds : List PyData) (H : Hp) : Prop := noLs ds = true ∧ ∃ xs, H p = some (.lst xs) ∧ DqAll H ds xs
theorem LstAt.mono {p : Addr} {ds : List PyData} {H H' : Hp} (e : Same H H') (h : LstAt p ds H) : LstAt p ds H' := let ⟨n, xs, h1, h2⟩ := h; ⟨n, xs, e _ _ h1, h2.mono e⟩
theorem noLs_append : ∀ {as bs : List PyData}, noLs as = true → noLs bs = true → noLs (as ++ bs) = true
  | [], _, _, h => h
  | a :: as, bs, ha, hb => by
    have h : noL a = true ∧ noLs as = true := by simpa [noLs] using ha
    show (noL a && noLs (as ++ bs)) = true
    rw [h.1, noLs_append h.2 hb]
    rfl
theorem tk_upd {p : Addr} {H : Hp} {o o' : HO} (h : H p = some o) (ho : ∀ ys, o ≠ .tup ys) : Tk H (upd H p o') := fun a xs ha => by
  rw [upd_ne fun e => ?_]
  · exact ha
  · subst e
    rw [h] at ha
    exact ho xs (Option.some.inj ha)
theorem LstAt.grow {p : Addr} {ds es : List PyData} {H H1 : Hp} {xs ys : List L2.V} (hp : H p = some (.lst xs)) (n : noLs ds = true) (hx : DqAll H ds xs) (e : Same H H1) (hn : noLs es = true) (hy : DqAll H1 es ys) : LstAt p (ds ++ es) (upd H1 p (.lst (xs ++ ys))) := by
  have tk : Tk H1 (upd H1 p (.lst (xs ++ ys))) := tk_upd (e _ _ hp) (fun ys => by intro q; cases q)
  exact ⟨noLs_append n hn, _, upd_same, DqAll.append (DqAll.tk tk _ _ n (hx.mono e)) (DqAll.tk tk _ _ hn hy)⟩
theorem LstAt.ref {p : Addr} {ds : List PyData} {H : Hp} (h : LstAt p ds H) : Dq H (.list ds) (.ref p) := let ⟨_, xs, h1, h2⟩ := h; ⟨p, xs, rfl, h1, h2⟩
end Rn
end
section
set_option maxHeartbeats 4000000
/-! Steps of a block, one by one. -/
namespace Rn
open PySem L2
section
variable {S S1 : Sto} {te : TE} {tt : TT} {t u : TS} {D : Ends} {σ : St} {H : Hp} {P : Ab} {ds : List PyData} {i : Nat} {b : Bool}
theorem go_nx (hl : σ.length = S.length) (hh : Hold H S σ) (h : Nx t S S1) (k : ∀ σ' H', σ'.length = S1.length → Same H H' → Hold H' S1 σ' → u D σ' H') : tSeq t u D σ H := h { D with nx := u D } σ H hl hh k
theorem go_asg (hl : σ.length = S.length) (hh : Hold H S σ) (h : Er te S P) (k : ∀ v H', Same H H' → P.p v H' → u D (σ.set i (some v)) H') : tSeq (tAsg te (gName i)) u D σ H := h σ H _ hl hh k
theorem go_new (hl : σ.length = S.length) (hh : Hold H S σ) (h : Ef te S ds) (k : ∀ p xs H', H p = none → Same H H' → H' p = some (.lst xs) → DqAll H' ds xs → u D (σ.set i (some (.ref p))) H') : tSeq (tAsg te (gName i)) u D σ H := h σ H _ hl hh k
theorem go_ret (hl : σ.length = S.length) (hh : Hold H S σ) (h : Er te S P) (k : ∀ v H', Same H H' → P.p v H' → D.rt v H') : tRet te D σ H := h σ H _ hl hh k
theorem go_if (hl : σ.length = S.length) (hh : Hold H S σ) (h : Et tt S b) (k1 : b = true → ∀ H', Same H H' → t D σ H') (k2 : b = false → ∀ H', Same H H' → u D σ H') : tIfS tt t u D σ H := h σ H _ hl hh fun H' e => by
  cases b with
  | true => exact iteT (k1 rfl H' e)
  | false => exact iteF (k2 rfl H' e)
theorem go_ifs {w : TS} (hl : σ.length = S.length) (hh : Hold H S σ) (h : Et tt S b) (k1 : b = true → ∀ H', Same H H' → t { D with nx := w D } σ H') (k2 : b = false → ∀ H', Same H H' → u { D with nx := w D } σ H') : tSeq (tIfS tt t u) w D σ H := go_if hl hh h k1 k2
theorem go_extend {K : PySem.W.Frag} {p : Addr} {xs : List V} (hl : σ.length = S.length) (hh : Hold H S σ) (hx : σ[i]? = some (some (.ref p))) (hp : H p = some (.lst xs)) (h : Ef te S ds) (hz : xs.length + ds.length ≤ sizeLine)
    (k : ∀ ys H1, Same H H1 → DqAll H1 ds ys → D.nx σ (upd H1 p (.lst (xs ++ ys)))) : tDrop (tBM K "list" rExtend (tVar i) (tCons te tNil)) D σ H := do_extend hx hp hl hh h hz k
theorem go_append {K : PySem.W.Frag} {p : Addr} {xs : List V} {d : PyData} (hl : σ.length = S.length) (hh : Hold H S σ) (hx : σ[i]? = some (some (.ref p))) (hp : H p = some (.lst xs)) (h : Ed te S d) (hz : xs.length < sizeLine)
    (k : ∀ y H1, Same H H1 → Dq H1 d y → D.nx σ (upd H1 p (.lst (xs ++ [y])))) : tDrop (tBM K "list" rAppend (tVar i) (tCons te tNil)) D σ H := do_append hx hp hl hh h hz k
end
end Rn
end
section
set_option maxHeartbeats 4000000
/-! Walks of things that are told abstractly; tables whose values are lists. -/
namespace Rn
open PySem L2
structure ValA (J : It) (Ps : List Ab) (H : Hp) : Prop where
  go : ∀ i, i < Ps.length → J.go i H
  stop : J.stop Ps.length H
  yld : ∀ i x H', i < Ps.length → J.yld i H x H' → Same H H' ∧ ∃ P, Ps[i]? = some P ∧ P.p x H'
def SrcA (wi : TI) (S : Sto) (Ps : List Ab) : Prop := ∀ (σ : St) (H : Hp) (R : It → Hp → Prop), σ.length = S.length → Hold H S σ → (∀ J H1, Same H H1 → (∀ H', Same H1 H' → ValA J Ps H') → R J H1) → wi σ H R
section
variable {S : Sto} {te : TE} {P : Program} {w : World}
theorem ef_lcP {wi : TI} {vs : List Nat} {j : Nat} (Ps : List Ab) (hs : List PyData) (len : hs.length = Ps.length) (hw : SrcA wi S Ps) (hz : Ps.length ≤ sizeLine) (hj : j ∈ vs) (hjl : j < S.length) (hn : noLs hs = true)
    (he : ∀ (i : Nat) (P : Ab) (d : PyData), Ps[i]? = some P → hs[i]? = some d → Ed te ((wipeS S vs).set j (some P)) d) : Ef (tLc wi (gName j) tYes te vs) S hs := fun σ H Q hl hh k => hw σ H _ hl hh fun J H1 e1 val D hD => by
  have hnl : ∀ i, noLs (hs.take i) = true := fun i => by
    have q : ∀ (l : List PyData) (i : Nat), noLs l = true → noLs (l.take i) = true := by
      intro l
      induction l with
      | nil => intro i _; simp [noLs]
      | cons a l ih =>
        intro i h
        cases i with
        | zero => rfl
        | succ i =>
          have h' : noL a = true ∧ noLs l = true := by simpa [noLs] using h
          show (noL a && noLs (l.take i)) = true
          rw [h'.1, ih i h'.2]
          rfl
    exact q hs i hn
  refine ⟨fun i m H' => m = Ps.length - i ∧ i ≤ Ps.length ∧ ∃ acc, H' D = some (.lst acc) ∧ DqAll H' (hs.take i) acc ∧ Same H1 H', ⟨Ps.length, by simp, Nat.zero_le _, [], upd_same, rfl, Same.new hD⟩, ?_⟩
  rintro i m H' ⟨rfl, hi, acc, hacc, dacc, e'⟩
  have V := val H' e'
  by_cases hlt : i < Ps.length
  · refine .inr ⟨V.go i hlt, fun H2 => i + 1 ≤ Ps.length ∧ ∃ acc, H2 D = some (.lst acc) ∧ DqAll H2 (hs.take (i + 1)) acc ∧ Same H1 H2, fun H2 q => ⟨Ps.length - (i + 1), by omega, rfl, q⟩, fun x H2 y => ?_⟩
    obtain ⟨e2, P, hP, px⟩ := V.yld i x H2 hlt y
    have hi' : i < hs.length := by omega
    have hd : hs[i]? = some hs[i] := List.getElem?_eq_getElem hi'
    have etk : hs.take (i + 1) = hs.take i ++ [hs[i]] := by rw [List.take_add_one, hd]; rfl
    have hh2 : Hold H2 ((wipeS S vs).set j (some P)) ((wipe σ vs).set j (some x)) := ((hh.wipe vs).mono ((e1.trans e').trans e2)).set px (by rw [wipe_length]; omega)
    refine ⟨(wipe_set (wipe σ vs) vs (some x) hj).trans (wipe_wipe σ vs), ?_⟩
    simp only [tYes, if_true]
    refine he i P _ hP hd _ H2 _ (by simp [wipe_length, wipeS_length, hl]) hh2 fun v H4 e4 dv => ⟨acc, e4 _ _ (e2 _ _ hacc), ?_, hlt, _, upd_same, ?_, Same.mut ((e'.trans e2).trans e4) hD⟩
    · have := dacc.length
      rw [List.length_take] at this
      omega
    · rw [etk]
      have tk : Tk H4 (upd H4 D (.lst (acc ++ [v]))) := fun a ys ha => by
        rw [upd_ne fun q => ?_]
        · exact ha
        · rw [q, e4 _ _ (e2 _ _ hacc)] at ha; cases ha
      have hnd : noL hs[i] = true := by
        have q := hnl (i + 1)
        rw [etk] at q
        have : ∀ l : List PyData, noLs (l ++ [hs[i]]) = true → noL hs[i] = true := by
          intro l
          induction l with
          | nil => intro h; simpa [noLs] using h
          | cons a l ih => intro h; exact ih (by have h' : noL a = true ∧ noLs (l ++ [hs[i]]) = true := by simpa [noLs] using h
                                                 exact h'.2)
        exact this _ q
      exact DqAll.append (DqAll.tk tk _ _ (hnl i) ((dacc.mono e2).mono e4)) (DqAll.one (Dq.tk tk _ _ hnd dv))
  · have e : i = Ps.length := by omega
    subst e
    refine .inl ⟨V.stop, ?_⟩
    rw [← len, List.take_length] at dacc
    exact k D acc H' (Same.free e1 hD) (e1.trans e') hacc dacc
/-- a list whose first item stands for d -/
def aFst (d : PyData) : Ab := ⟨fun v H => ∃ q x t, v = .ref q ∧ H q = some (.lst (x :: t)) ∧ Dq H d x, fun v _ _ e ⟨q, x, t, h1, h2, h3⟩ => ⟨q, x, t, h1, e _ _ h2, Dq.mono e _ _ h3⟩⟩
theorem ed_fst {K : PySem.W.Frag} {d : PyData} (h : Er te S (aFst d)) : Ed (tOp (rIxL K) te (tC (.int 0))) S d := fun σ H Q hl hh k => h σ H _ hl hh fun v H1 e1 ⟨q, x, t, h1, h2, h3⟩ =>
  ⟨q, x :: t, 0, x, h1, rfl, SqL.of h2, atI_nat (j := 0) rfl, k x H1 e1 h3⟩
/-- a table whose values are told by Ps, in the order of insertion -/
def aVals (P : Program) (w : World) (Ps : List Ab) : Ab := ⟨fun v H => ∃ p rows, v = .ref p ∧ NTab P w H p rows ∧ rows.length = Ps.length ∧ ∀ (i : Nat) (r : NRow) (Q : Ab), rows[i]? = some r → Ps[i]? = some Q → Q.p r.2.2 H,
  fun v _ _ e ⟨p, rows, h1, h2, h3, h4⟩ => ⟨p, rows, h1, h2.mono e, h3, fun i r Q a b => Q.mono _ _ _ e (h4 i r Q a b)⟩⟩
theorem src_vals {td : TE} {Ps : List Ab} (h : Er td S (aVals P w Ps)) : SrcA (iNV P w (tNVals P w td)) S Ps := fun σ H R hl hh k => h σ H _ hl hh fun v H1 e1 ⟨p, rows, h1, h2, h3, h4⟩ => by
  obtain ⟨o, ho, hd, hk⟩ := id h2
  refine ⟨p, rows, h1, h2, fun r hr => ?_⟩
  have hpr : p ≠ r := fun q => by rw [← q, ho] at hr; cases hr
  refine ⟨r, p, o, rows, rfl, upd_same, by rw [upd_ne hpr]; exact ho, hd, k _ _ (e1.trans (Same.new hr)) fun H' e' => ?_⟩
  have hp' : H' p = some (pinO p o) := e' _ _ (by rw [upd_ne hpr]; exact ho)
  refine ⟨fun i hi => ⟨by omega, hp'⟩, ⟨by omega, hp'⟩, fun i x H2 hi y => ?_⟩
  obtain ⟨rfl, r0, hr0, rfl⟩ := y
  exact ⟨Same.refl _, Ps[i], List.getElem?_eq_getElem hi, (Ps[i]).mono _ _ _ ((Same.new hr).trans e') (h4 i r0 _ hr0 (List.getElem?_eq_getElem hi))⟩
end
section
variable {X : Cx} {k : Nat}
theorem w_nsetd {o e f : Expr} {apos cpos : Pos} {td : TE} {t : TA} (hr : Room k X.A) (ho : PE X o td) (ha : PA X [e, f] t) (m : M2 X o "setdefault" apos e f cpos)
    (hs : starEach [e, f] X.env = (false, eval e X.env) :: (false, eval f X.env) :: [] := by rfl) : PE X (.Call (.Attribute o "setdefault" apos) [e, f] [] cpos) (tNSetd X.prog X.w td t) := pe_nsetd (by have := hr.units; omega) ho ha m hs
theorem w_nput {o i value : Expr} {pos pos' : Pos} {td ty tv : TE} (hr : Room k X.A) (ho : PE X o td) (hi : PE X i ty) (hv : PE X value tv) (hs : swapsWith value (some (.Subscript o i pos')) pos.line X.env = pure false := by rfl) :
    PS X (.Assign [.Subscript o i pos'] value pos) (tNPut X.prog X.w td ty tv) := ps_nput (by have := hr.units; omega) ho hi hv hs
end
end Rn
end
section
set_option maxHeartbeats 4000000
namespace Rn
open PySem L2 PyProof.Rows
variable {P : Program} {w : World} {K : PySem.W.Frag} {mg : Str → Option Value} {base : Heap}

/-! are_rising -/
def rising (l : List Nat) : Bool := (l.zip l.tail).all fun p => decide (p.1 < p.2)
abbrev sRising : Stmt := top 15
theorem scRising : FnScope ["row", "one", "other"] ["row"] (defScope sRising) := ⟨rfl, rfl, rfl, by decide +kernel, rfl, by decide +kernel, by decide +kernel⟩
def RRising : List PyData → Ab → Prop := fun ds P => ∃ l : List Nat, l.length ≤ 1000 ∧ (ds = [.list (l.map eN)] ∨ ds = [.tuple (l.map eN)]) ∧ P = dA (.bool (rising l))
theorem ok_rising (T : Tb mg) (D : Dn K mg "are_rising" sRising ["row"]) : Cal P w K mg base 1 "are_rising" ["row"] (spA RRising) := by
  refine pure_cal D scRising (fun ds P h => ?_) fun f cdv A outer s H E hr ds Pb h => ?_
  · obtain ⟨l, _, rfl | rfl, _⟩ := h <;> rfl
  · obtain ⟨l, hl, h, rfl⟩ := h
    refine ⟨_, pss_one (ps_ret (w_all K T.all (pa_cons (pe_lc (own := [("one", 1), ("other", 2)]) (g := gTup K 2 (gCons (gName 1) (gCons (gName 2) gNil))) (tt := tYes) rfl scRising.nd
      (RZ.pi_zipA (by rfl) T.zip (pa_cons (pv 0) (pa_cons (pe_slice sl_both (pv 0) (po_some pe_int) po_none) pa_nil)))
      (blkOk_by (by kernel_rfl)) (fun _ _ _ _ _ => pg_two 1 2 rfl scRising.nd) (fun _ _ _ _ _ => pts_nil)
      (fun _ _ _ _ _ => pe_cmpR op_lt (pv 1) (pv 2) (nomark _))) pa_nil))), ?_⟩
    obtain ⟨d, rfl, hd⟩ : ∃ d, ds = [d] ∧ (d = .list (l.map eN) ∨ d = .tuple (l.map eN)) := by
      rcases h with rfl | rfl
      · exact ⟨_, rfl, .inl rfl⟩
      · exact ⟨_, rfl, .inr rfl⟩
    refine rt_ret (ed_allM (xs := l.zip l.tail) (f := fun p => decide (p.1 < p.2)) (ea_cons (Ef.ed (ef_lcA (l.zip l.tail) (fun p => .tuple [eN p.1, eN p.2]) _ (fun p => [some (dA d), some (dA (eN p.1)), some (dA (eN p.2))]) ?_ (szl (by simp; omega)) (js := [1, 2]) (by decide)
      (fun p _ => tg_pair) (fun p hp => ed_is (ed_opB (ed_var rfl) (ed_var rfl)) ?_) (fun _ _ => rfl))) ea_nil))
    · have e : (l.zip l.tail).map (fun p => PyData.tuple [eN p.1, eN p.2]) = ((l.map eN).zip ((l.map eN).drop 1)).map fun p => .tuple [p.1, p.2] := by
        rw [List.drop_one, ← List.map_tail, zip_map]
      rw [e]
      rcases hd with rfl | rfl
      · exact src_zipLL (ea_cons (ed_var rfl) (ea_cons (ed_is (ed_slBL (ed_var rfl) (eo_some ed_int) eo_none) (by rw [← cutD_from]; rfl)) ea_nil))
      · exact src_zipT (ea_cons (ed_var rfl) (ea_cons (ed_is (ed_slBT (ed_var rfl) (eo_some ed_int) eo_none) (by rw [← cutD_from]; rfl)) ea_nil))
    · congr 1
      exact decide_eq_decide.mpr Int.ofNat_lt
theorem LotOn.rise (l : Lot) : True := trivial

/-! what is well formed -/
def LotWF (sz : List Nat) (l : Lot) : Prop := 1 ≤ l.length ∧ l.length ≤ 3 ∧ (∀ p ∈ l, p.1 < sz.length ∧ p.2 < sz.getD p.1 0) ∧ rising (l.map (·.1)) = true
def SzWF (sz : List Nat) : Prop := 1 ≤ sz.length ∧ sz.length ≤ 3 ∧ ∀ n ∈ sz, 2 ≤ n ∧ n ≤ 4
def Asc (ls : List Lot) : Prop := ∀ i, i + 1 < ls.length → lotLe (ls.getD (i + 1) []) (ls.getD i []) = false
structure RigWF (g : Rig) : Prop where
  sz : SzWF g.1
  few : g.2.length ≤ 6
  lot : ∀ l ∈ g.2, LotWF g.1 l
  asc : Asc g.2

/-! is_setting -/
abbrev sSet : Stmt := top 16
theorem scSet : FnScope ["values", "thing"] ["values", "thing"] (defScope sSet) := ⟨rfl, rfl, rfl, by decide +kernel, rfl, by decide +kernel, by decide +kernel⟩
def RSet : List PyData → Ab → Prop := fun ds P => ∃ (sz : List Nat) (p : Nat × Nat), ds = [eRow sz, ePr p] ∧ p.1 < sz.length ∧ p.2 < sz.getD p.1 0 ∧ P = dA (.bool true)
theorem ok_set (T : Tb mg) (D : Dn K mg "is_setting" sSet ["values", "thing"]) (W : Cal P w K mg base 1 "is_whole" ["value", "least", "most"] (spA RWhole)) : Cal P w K mg base 2 "is_setting" ["values", "thing"] (spA RSet) := by
  refine pure_cal D scSet (fun ds P h => ?_) fun f cdv A outer s H E hr ds Pb h => ?_
  · obtain ⟨sz, p, rfl, _⟩ := h
    rfl
  · obtain ⟨sz, p, rfl, h1, h2, rfl⟩ := h
    refine ⟨_, pss_cons (ps_if (PW.pt (pw_or (pt_not (pt_val (w_isi K T.isi (pv 1) (w_ty "tuple" T.tuple boot_tuple)))) (pw_or (pt_cmpR op_ne (w_len K T.len (pa_cons (pv 1) pa_nil)) pe_int (nomark _))
      (pw_or1 (pt_not (pt_val (pe_cal W hr (pa_cons (w_ixT K (pv 1) pe_int) (pa_cons pe_int (pa_cons (pe_op op_sub (w_len K T.len (pa_cons (pv 0) pa_nil)) pe_int) pa_nil)))))))))) pss_never pss_nil)
      (pss_one (ps_ret (pe_cal W hr (pa_cons (w_ixT K (pv 1) pe_int) (pa_cons pe_int (pa_cons (pe_op op_sub (w_ixT K (pv 0) (w_ixT K (pv 1) pe_int)) pe_int) pa_nil)))))), ?_⟩
    refine rt_seq (nx_skip (et_is (et_or (et_not (et_B (ed_isi (d := ePr p) (ed_var rfl) k_tup_tup))) fun _ => et_or (et_test (ed_neI (ed_lenT (ea_cons (ed_var rfl) ea_nil)) ed_int)) fun _ =>
      et_not (et_B (er_call (ea_cons (ed_ixT (d := eN p.1) (ed_var rfl) ed_int (by rfl)) (ea_cons ed_int (ea_cons (ed_opI (ed_lenT (ea_cons (ed_var rfl) ea_nil)) ed_int) ea_nil))) ⟨_, _, _, rfl, rfl⟩))) ?_)) ?_
    · simp
      omega
    · refine rt_ret (ed_is (er_call (ea_cons (ed_ixT (d := eN p.2) (ed_var rfl) ed_int (by rfl)) (ea_cons ed_int (ea_cons (ed_opI (ed_ixT (d := eN (sz.getD p.1 0)) (ed_var rfl) (ed_ixT (d := eN p.1) (ed_var rfl) ed_int (by rfl)) (at_row h1)) ed_int) ea_nil))) ⟨_, _, _, rfl, rfl⟩) ?_)
      simp
      simp at h2
      omega

/-! is_lot_of -/
abbrev sLotOf : Stmt := top 17
theorem scLotOf : FnScope ["values", "thing", "one", "knob", "value"] ["values", "thing"] (defScope sLotOf) := ⟨rfl, rfl, rfl, by decide +kernel, rfl, by decide +kernel, by decide +kernel⟩
def RLotOf : List PyData → Ab → Prop := fun ds P => ∃ (sz : List Nat) (l : Lot), ds = [eRow sz, eLot l] ∧ LotWF sz l ∧ P = dA (.bool true)
theorem ok_lotOf (T : Tb mg) (D : Dn K mg "is_lot_of" sLotOf ["values", "thing"]) (W : Cal P w K mg base 2 "is_setting" ["values", "thing"] (spA RSet)) (W2 : Cal P w K mg base 1 "are_rising" ["row"] (spA RRising)) : Cal P w K mg base 3 "is_lot_of" ["values", "thing"] (spA RLotOf) := by
  refine pure_cal D scLotOf (fun ds P h => ?_) fun f cdv A outer s H E hr ds Pb h => ?_
  · obtain ⟨sz, p, rfl, _⟩ := h
    rfl
  · obtain ⟨sz, l, rfl, ⟨h1, h2, h3, h4⟩, rfl⟩ := h
    refine ⟨_, pss_cons (ps_if (PW.pt (pw_or (pt_not (pt_val (w_isi K T.isi (pv 1) (w_ty "tuple" T.tuple boot_tuple)))) (pw_or1 (pt_not (pt_chain op_le op_le pe_int (w_len K T.len (pa_cons (pv 1) pa_nil)) (pe_num T.settings)))))) pss_never pss_nil)
      (pss_cons (ps_if (pt_not (pt_val (w_all K T.all (pa_cons (pe_lc (own := [("one", 2)]) (g := gName 2) (tt := tYes) rfl scLotOf.nd (pi_tup (pv 1)) (blkOk_by (by kernel_rfl)) (fun _ _ _ _ _ => pg_one 2 scLotOf.nd) (fun _ _ _ _ _ => pts_nil)
        (fun _ _ _ _ _ => pe_cal W hr (pa_cons (pv 0) (pa_cons (pv 2) pa_nil)))) pa_nil)))) pss_never pss_nil)
      (pss_one (ps_ret (pe_cal W2 hr (pa_cons (pe_lc (own := [("knob", 3), ("value", 4)]) (g := gTup K 2 (gCons (gName 3) (gCons (gName 4) gNil))) (tt := tYes) rfl scLotOf.nd (pi_tup (pv 1)) (blkOk_by (by kernel_rfl)) (fun _ _ _ _ _ => pg_two 3 4 rfl scLotOf.nd) (fun _ _ _ _ _ => pts_nil)
        (fun _ _ _ _ _ => pv 3)) pa_nil))))), ?_⟩
    refine rt_seq (nx_skip (et_is (et_or (et_not (et_B (ed_isi (d := eLot l) (ed_var rfl) k_tup_tup))) fun _ => et_not (et_test (ed_chain ed_int (ed_lenT (ea_cons (ed_var rfl) ea_nil)) ed_int))) ?_)) (rt_seq (nx_skip (et_is (et_not (et_B (ed_allM (xs := l) (f := fun _ => true) (ea_cons (Ef.ed (ef_lcA l ePr _ (fun p => [some (dA (eRow sz)), some (dA (eLot l)), some (dA (ePr p)), none, none]) (src_tup (ed_var rfl)) (szl (by omega)) (js := [2]) (by decide)
      (fun p _ => tg_name) (fun p hp => er_call (ea_cons (ed_var rfl) (ea_cons (ed_var rfl) ea_nil)) ⟨sz, p, rfl, (h3 p hp).1, (h3 p hp).2, rfl⟩) (fun _ _ => rfl))) ea_nil)))) ?_)) ?_)
    · simp
      omega
    · simp
    · refine rt_ret (ed_is (er_call (ea_cons (ed_is (Ef.ed (ef_lcA l ePr (fun p => eN p.1) (fun p => [some (dA (eRow sz)), some (dA (eLot l)), none, some (dA (eN p.1)), some (dA (eN p.2))]) (src_tup (ed_var rfl)) (szl (by omega)) (js := [3, 4]) (by decide)
        (fun p _ => tg_pair) (fun p hp => ed_var rfl) (fun _ _ => rfl))) (b := .list ((l.map (·.1)).map eN)) (by rw [List.map_map]; rfl)) ea_nil) ⟨_, by simp; omega, .inl rfl, rfl⟩) ?_)
      rw [h4]
end Rn
end
section
set_option maxHeartbeats 4000000
namespace Rn
open PySem L2 PyProof.Rows
variable {P : Program} {w : World} {K : PySem.W.Frag} {mg : Str → Option Value} {base : Heap}
theorem w_star {X : Cx} {e : Expr} {es : List Expr} {te : TE} {t : TA} {p : Pos} (K : PySem.W.Frag) (he : PE X e te) (hr : PA X es t) (hK : X.K = K := by rfl) (hs : starEach (.Starred e p :: es) X.env = (true, eval e X.env) :: starEach es X.env := by rfl) : PA X (.Starred e p :: es) (StX.tStar K te t) := by
  subst hK
  exact StX.pa_star he hr hs
theorem ed_leLot {S : Sto} {ta tb : TE} {l m : Lot} (ha : Ed ta S (eLot l)) (hb : Ed tb S (eLot m)) : Ed (tOp rLeLot ta tb) S (.bool (lotLe l m)) :=
  er_op ha hb fun x y H Q px py k => ⟨l, m, px, py, k _ H (Same.refl H) rfl⟩

theorem w_leLot {X : Cx} {k : Nat} (hr : Room k X.A) : OpR X (compareOp .LtE) rLeLot := op_leLot (by have := hr.units; omega)
/-! wrong_in_barred -/
abbrev sBarred : Stmt := top 18
theorem scBarred : FnScope ["values", "thing", "number", "lot"] ["values", "thing"] (defScope sBarred) := ⟨rfl, rfl, rfl, by decide +kernel, rfl, by decide +kernel, by decide +kernel⟩
def RBarred : List PyData → Ab → Prop := fun ds P => ∃ (sz : List Nat) (ls : List Lot), ds = [eRow sz, eFl ls] ∧ ls.length ≤ 6 ∧ (∀ l ∈ ls, LotWF sz l) ∧ Asc ls ∧ P = dA (.list [])
theorem ok_barred (T : Tb mg) (D : Dn K mg "wrong_in_barred" sBarred ["values", "thing"]) (W : Cal P w K mg base 3 "is_lot_of" ["values", "thing"] (spA RLotOf)) : Cal P w K mg base 4 "wrong_in_barred" ["values", "thing"] (spA RBarred) := by
  refine pure_cal D scBarred (fun ds P h => ?_) fun f cdv A outer s H E hr ds Pb h => ?_
  · obtain ⟨sz, p, rfl, _⟩ := h
    rfl
  · obtain ⟨sz, ls, rfl, h1, h2, h3, rfl⟩ := h
    refine ⟨_, pss_cons (ps_if (PW.pt (pw_or (pt_not (pt_val (w_isi K T.isi (pv 1) (w_ty "tuple" T.tuple boot_tuple)))) (pw_or1 (pt_cmpR op_gt (w_len K T.len (pa_cons (pv 1) pa_nil)) (pe_num T.barred) (nomark _))))) pss_never pss_nil)
      (pss_cons (ps_for PassesOwn.never rfl (pi_enumT K T.enum (pa_cons (pv 1) pa_nil)) (pg_two 2 3 rfl scBarred.nd) (pss_one (ps_if (PW.pt (pw_or (pt_not (pt_val (pe_cal W hr (pa_cons (pv 0) (pa_cons (pv 3) pa_nil)))))
        (pw_or1 (PW.pt (pw_and (pt_cmpR op_gt (pv 2) pe_int (nomark _)) (pw_and1 (pt_cmpR (w_leLot hr) (pv 3) (w_ixT K (pv 1) (pe_op op_sub (pv 2) pe_int)) (nomark _)))))))) pss_never pss_nil)))
      (pss_one (ps_ret (pe_lst pa_nil)))), ?_⟩
    refine rt_seq (nx_skip (et_is (et_or (et_not (et_B (ed_isi (d := eFl ls) (ed_var rfl) k_tup_tup))) fun _ => et_test (ed_opB (ed_lenT (ea_cons (ed_var rfl) ea_nil)) ed_int)) ?_)) (rt_seq (nx_for (js := [2, 3]) ls.zipIdx (fun p => .tuple [eN p.2, eLot p.1]) (fun _ => [some (dA (eRow sz)), some (dA (eFl ls)), none, none])
      (fun _ p => [some (dA (eRow sz)), some (dA (eFl ls)), some (dA (eN p.2)), some (dA (eLot p.1))]) ?_ (Wk.refl _) (fun pre x post e => tg_pair) (fun pre x post e => nx_weak (nx_skip (et_is (et_or (et_not (et_B (er_call (ea_cons (ed_var rfl) (ea_cons (ed_var rfl) ea_nil)) ⟨sz, x.1, rfl, ?_, rfl⟩)))
        fun _ => et_and (et_test (ed_opB (ed_var rfl) ed_int)) fun q => et_test (ed_leLot (m := ls.getD (x.2 - 1) []) (ed_var rfl) (ed_ixT (ds := ls.map eLot) (ed_var rfl) (ed_opI (ed_var rfl) ed_int) ?_))) ?_)) (.keep _ (.keep _ (.drop _ (.drop _ .nil))))) (fun _ => rfl)) (rt_ret (ed_lst ea_nil (by decide))))
    · simp
      omega
    · rw [← zipIdx_map]
      exact src_enumT (ea_cons (ed_var rfl) ea_nil)
    · have hx : x ∈ ls.zipIdx := by rw [e]; simp
      obtain ⟨l, i⟩ := x
      have hi : ls[i]? = some l := List.mk_mem_zipIdx_iff_getElem?.mp hx
      exact h2 l (List.mem_of_getElem? hi)
    · have hx : x ∈ ls.zipIdx := by rw [e]; simp
      obtain ⟨l, i⟩ := x
      have hi : ls[i]? = some l := List.mk_mem_zipIdx_iff_getElem?.mp hx
      have hlt : i < ls.length := (List.getElem?_eq_some_iff.mp hi).1
      have h0 : 0 < i := by simpa using q
      have e1 : ((i : Nat) : Int) - 1 = ((i - 1 : Nat) : Int) := by omega
      show atI (ls.map eLot) ((i : Nat) - 1) = _
      rw [e1]
      refine atI_nat ?_
      rw [List.getElem?_map, List.getD_eq_getElem?_getD, List.getElem?_eq_getElem (by omega)]
      rfl
    · have hx : x ∈ ls.zipIdx := by rw [e]; simp
      obtain ⟨l, i⟩ := x
      have hi : ls[i]? = some l := List.mk_mem_zipIdx_iff_getElem?.mp hx
      have hlt : i < ls.length := (List.getElem?_eq_some_iff.mp hi).1
      cases i with
      | zero => simp
      | succ i =>
        have := h3 i hlt
        have e2 : ls.getD (i + 1) [] = l := by rw [List.getD_eq_getElem?_getD, hi]; rfl
        rw [e2] at this
        simp
        rw [← List.getD_eq_getElem?_getD]
        exact this

/-! need_rig -/
abbrev sNeedRig : Stmt := top 19
theorem scNeedRig : FnScope ["rig", "knob", "many", "path"] ["rig"] (defScope sNeedRig) := ⟨rfl, rfl, rfl, by decide +kernel, rfl, by decide +kernel, by decide +kernel⟩
def RNeedRig : List PyData → Ab → Prop := fun ds P => ∃ g : Rig, ds = [eRig g] ∧ RigWF g ∧ P = dA (eRig g)
theorem ok_needRig (T : Tb mg) (D : Dn K mg "need_rig" sNeedRig ["rig"]) (W : Cal P w K mg base 4 "wrong_in_barred" ["values", "thing"] (spA RBarred)) (W2 : Cal P w K mg base 1 "is_whole" ["value", "least", "most"] (spA RWhole)) : Cal P w K mg base 5 "need_rig" ["rig"] (spA RNeedRig) := by
  refine pure_cal D scNeedRig (fun ds P h => ?_) fun f cdv A outer s H E hr ds Pb h => ?_
  · obtain ⟨g, rfl, _⟩ := h
    rfl
  · obtain ⟨g, rfl, h, rfl⟩ := h
    obtain ⟨⟨z1, z2, z3⟩, h4, h5, h6⟩ := h
    refine ⟨_, pss_cons (ps_if (PW.pt (pw_or (pt_not (pt_val (w_isi K T.isi (pv 0) (w_ty "tuple" T.tuple boot_tuple)))) (pw_or1 (pt_cmpR op_ne (w_len K T.len (pa_cons (pv 0) pa_nil)) pe_int (nomark _))))) pss_never pss_nil)
      (pss_cons (ps_if (PW.pt (pw_or (pt_not (pt_val (w_isi K T.isi (w_ixT K (pv 0) pe_int) (w_ty "tuple" T.tuple boot_tuple)))) (pw_or1 (pt_not (pt_chain op_le op_le pe_int (w_len K T.len (pa_cons (w_ixT K (pv 0) pe_int) pa_nil)) (pe_num T.knobs)))))) pss_never pss_nil)
      (pss_cons (ps_for PassesOwn.never rfl (pi_enumT K T.enum (pa_cons (w_ixT K (pv 0) pe_int) pa_nil)) (pg_two 1 2 rfl scNeedRig.nd) (pss_one (ps_if (pt_not (pt_val (pe_cal W2 hr (pa_cons (pv 2) (pa_cons (pe_num T.least) (pa_cons (pe_num T.values) pa_nil)))))) pss_never pss_nil)))
      (pss_cons (ps_for PassesOwn.never rfl (pi_list (pe_cal W hr (pa_cons (w_ixT K (pv 0) pe_int) (pa_cons (w_ixT K (pv 0) pe_int) pa_nil)))) (pg_one 3 scNeedRig.nd) pss_never)
      (pss_one (ps_ret (pv 0)))))), ?_⟩
    have i0 : Ed (tOp (rIxT K) (tVar 0) (tC (.int 0))) [some (dA (eRig g)), none, none, none] (eRow g.1) := ed_ixT (d := eRow g.1) (ds := [eRow g.1, eFl g.2]) (ed_var rfl) ed_int (by rfl)
    have i1 : Ed (tOp (rIxT K) (tVar 0) (tC (.int 1))) [some (dA (eRig g)), none, none, none] (eFl g.2) := ed_ixT (d := eFl g.2) (ds := [eRow g.1, eFl g.2]) (ed_var rfl) ed_int (by rfl)
    refine rt_seq (nx_skip (et_is (et_or (et_not (et_B (ed_isi (d := eRig g) (ed_var rfl) k_tup_tup))) fun _ => et_test (ed_neI (ed_lenT (ea_cons (ed_var rfl) ea_nil)) ed_int)) ?_))
      (rt_seq (nx_skip (et_is (et_or (et_not (et_B (ed_isi (d := eRow g.1) i0 k_tup_tup))) fun _ => et_not (et_test (ed_chain ed_int (ed_lenT (ea_cons i0 ea_nil)) ed_int))) ?_))
      (rt_seq (nx_for (js := [1, 2]) g.1.zipIdx (fun p => .tuple [eN p.2, eN p.1]) (fun _ => [some (dA (eRig g)), none, none, none]) (fun _ p => [some (dA (eRig g)), some (dA (eN p.2)), some (dA (eN p.1)), none]) ?_ (Wk.refl _) (fun pre x post e => tg_pair)
        (fun pre x post e => nx_weak (nx_skip (et_is (et_not (et_B (er_call (ea_cons (ed_var rfl) (ea_cons ed_int (ea_cons ed_int ea_nil))) ⟨_, _, _, rfl, rfl⟩))) ?_)) (.keep _ (.drop _ (.drop _ (.keep _ .nil))))) (fun _ => rfl))
      (rt_seq (nx_for (js := [3]) ([] : List Nat) eN (fun _ => [some (dA (eRig g)), none, none, none]) (fun _ p => [some (dA (eRig g)), none, none, some (dA (eN p))]) (src_list (er_call (ea_cons i0 (ea_cons i1 ea_nil)) ⟨g.1, g.2, rfl, h4, h5, h6, rfl⟩)) (Wk.refl _) (fun pre x post e => by simp at e) (fun pre x post e => by simp at e) (fun _ => rfl)) (rt_ret (ed_var rfl)))))
    · simp
    · simp
      omega
    · rw [← zipIdx_map]
      exact src_enumT (ea_cons i0 ea_nil)
    · have hx : x ∈ g.1.zipIdx := by rw [e]; simp
      obtain ⟨l, i⟩ := x
      have hi : g.1[i]? = some l := List.mk_mem_zipIdx_iff_getElem?.mp hx
      have := z3 l (List.mem_of_getElem? hi)
      simp
      omega
end Rn
end
section
set_option maxHeartbeats 4000000
namespace Rn
open PySem L2 PyProof.Rows
variable {P : Program} {w : World} {K : PySem.W.Frag} {mg : Str → Option Value} {base : Heap}

/-! the rows, told plainly -/
def stepRows (f : List Row) (m : Nat) : List Row := f.flatMap fun r => (List.range m).map fun v => r ++ [v]
def allRows (sz : List Nat) : List Row := sz.foldl stepRows [[]]
def isLet (ls : List Lot) (r : Row) : Bool := !(ls.any (meets r))
def rowsOf (g : Rig) : List Row := (allRows g.1).filter (isLet g.2)
def RowIn (sz : List Nat) (r : Row) : Prop := r.length = sz.length ∧ ∀ p ∈ r.zip sz, p.1 < p.2
theorem stepRows_len (f : List Row) (m : Nat) : (stepRows f m).length = f.length * m := by
  unfold stepRows
  induction f with
  | nil => simp
  | cons r f ih => rw [List.flatMap_cons, List.length_append, ih, List.length_map, List.length_range, List.length_cons, Nat.succ_mul, Nat.add_comm]
theorem foldRows_len : ∀ (sz : List Nat) (f : List Row), (∀ n ∈ sz, n ≤ 4) → (sz.foldl stepRows f).length ≤ f.length * 4 ^ sz.length
  | [], f, _ => by simp
  | n :: sz, f, h => by
    have ih := foldRows_len sz (stepRows f n) fun m hm => h m (by simp [hm])
    rw [stepRows_len] at ih
    have h1 := h n (by simp)
    have h2 : f.length * n ≤ f.length * 4 := Nat.mul_le_mul_left _ h1
    have h3 : f.length * n * 4 ^ sz.length ≤ f.length * 4 * 4 ^ sz.length := Nat.mul_le_mul_right _ h2
    have h4 : f.length * 4 * 4 ^ sz.length = f.length * 4 ^ (n :: sz).length := by rw [List.length_cons, Nat.pow_succ', Nat.mul_assoc]
    show (sz.foldl stepRows (stepRows f n)).length ≤ _
    omega
theorem allRows_len {sz : List Nat} (h : SzWF sz) : (allRows sz).length ≤ 64 := by
  have q := foldRows_len sz [[]] fun n hn => (h.2.2 n hn).2
  have h2 : (4 : Nat) ^ sz.length ≤ 4 ^ 3 := Nat.pow_le_pow_right (by omega) h.2.1
  simp at q
  unfold allRows
  omega
theorem pow3 {k n : Nat} (h : k ≤ 3) (hn : n ≤ 4 ^ k) : n ≤ 64 := Nat.le_trans hn (Nat.le_trans (Nat.pow_le_pow_right (by omega) h) (by decide))
theorem stepRows_in {pre : List Nat} {f : List Row} {m : Nat} (h : ∀ r ∈ f, RowIn pre r) : ∀ r ∈ stepRows f m, RowIn (pre ++ [m]) r := fun r hr => by
  unfold stepRows at hr
  obtain ⟨r0, h0, hr⟩ := List.mem_flatMap.mp hr
  obtain ⟨v, hv, rfl⟩ := List.mem_map.mp hr
  obtain ⟨h1, h2⟩ := h r0 h0
  refine ⟨by simp [h1], fun p hp => ?_⟩
  rw [List.zip_append h1] at hp
  rcases List.mem_append.mp hp with q | q
  · exact h2 p q
  · simp at q
    subst q
    simpa using hv
theorem foldRows_in : ∀ (sz pre : List Nat) (f : List Row), (∀ r ∈ f, RowIn pre r) → ∀ r ∈ sz.foldl stepRows f, RowIn (pre ++ sz) r
  | [], pre, f, h => by simpa using h
  | n :: sz, pre, f, h => by
    have q := foldRows_in sz (pre ++ [n]) (stepRows f n) (stepRows_in h)
    simpa using q
theorem allRows_in (sz : List Nat) : ∀ r ∈ allRows sz, RowIn sz r := by
  have q := foldRows_in sz [] [[]] (fun r hr => by simp at hr; subst hr; exact ⟨rfl, fun p hp => by simp at hp⟩)
  simpa [allRows] using q
theorem rowsOf_in {g : Rig} {r : Row} (h : r ∈ rowsOf g) : RowIn g.1 r ∧ isLet g.2 r = true := by
  obtain ⟨h1, h2⟩ := List.mem_filter.mp h
  exact ⟨allRows_in _ _ h1, h2⟩
theorem rowsOf_len {g : Rig} (h : RigWF g) : (rowsOf g).length ≤ 64 := Nat.le_trans (List.length_filter_le _ _) (allRows_len h.sz)
theorem LotWF.on {sz : List Nat} {l : Lot} (h : LotWF sz l) {n : Nat} (e : n = sz.length) : LotOn n l := ⟨by have := h.2.1; omega, fun p hp => by rw [e]; exact (h.2.2.1 p hp).1⟩

/-! is_row -/
abbrev sIsRow : Stmt := top 21
theorem scIsRow : FnScope ["rig", "value", "one", "many"] ["rig", "value"] (defScope sIsRow) := ⟨rfl, rfl, rfl, by decide +kernel, rfl, by decide +kernel, by decide +kernel⟩
def RIsRow : List PyData → Ab → Prop := fun ds P => ∃ (g : Rig) (r : Row), ds = [eRig g, eRow r] ∧ RowIn g.1 r ∧ g.1.length ≤ 1000 ∧ P = dA (.bool true)
theorem ok_isRow (T : Tb mg) (D : Dn K mg "is_row" sIsRow ["rig", "value"]) (W : Cal P w K mg base 1 "is_whole" ["value", "least", "most"] (spA RWhole)) : Cal P w K mg base 2 "is_row" ["rig", "value"] (spA RIsRow) := by
  refine pure_cal D scIsRow (fun ds P h => ?_) fun f cdv A outer s H E hr ds Pb h => ?_
  · obtain ⟨sz, p, rfl, _⟩ := h
    rfl
  · obtain ⟨g, r, rfl, ⟨h1, h2⟩, hz, rfl⟩ := h
    refine ⟨_, pss_cons (ps_if (PW.pt (pw_or (pt_not (pt_val (w_isi K T.isi (pv 1) (w_ty "tuple" T.tuple boot_tuple)))) (pw_or1 (pt_cmpR op_ne (w_len K T.len (pa_cons (pv 1) pa_nil)) (w_len K T.len (pa_cons (w_ixT K (pv 0) pe_int) pa_nil)) (nomark _))))) pss_never pss_nil)
      (pss_one (ps_ret (w_all K T.all (pa_cons (pe_lc (own := [("one", 2), ("many", 3)]) (g := gTup K 2 (gCons (gName 2) (gCons (gName 3) gNil))) (tt := tYes) rfl scIsRow.nd (RZ.pi_zipA (by rfl) T.zip (pa_cons (pv 1) (pa_cons (w_ixT K (pv 0) pe_int) pa_nil))) (blkOk_by (by kernel_rfl))
        (fun _ _ _ _ _ => pg_two 2 3 rfl scIsRow.nd) (fun _ _ _ _ _ => pts_nil) (fun _ _ _ _ _ => pe_cal W hr (pa_cons (pv 2) (pa_cons pe_int (pa_cons (pe_op op_sub (pv 3) pe_int) pa_nil))))) pa_nil)))), ?_⟩
    have i0 : Ed (tOp (rIxT K) (tVar 0) (tC (.int 0))) [some (dA (eRig g)), some (dA (eRow r)), none, none] (eRow g.1) := ed_ixT (d := eRow g.1) (ds := [eRow g.1, eFl g.2]) (ed_var rfl) ed_int (by rfl)
    refine rt_seq (nx_skip (et_is (et_or (et_not (et_B (ed_isi (d := eRow r) (ed_var rfl) k_tup_tup))) fun _ => et_test (ed_neI (ed_lenT (ea_cons (ed_var rfl) ea_nil)) (ed_lenT (ea_cons i0 ea_nil)))) ?_)) ?_
    · simp [h1]
    · refine rt_ret (ed_is (ed_allM (xs := r.zip g.1) (f := fun p => true) (ea_cons (Ef.ed (ef_lcA (r.zip g.1) (fun p => .tuple [eN p.1, eN p.2]) _ (fun p => [some (dA (eRig g)), some (dA (eRow r)), some (dA (eN p.1)), some (dA (eN p.2))]) ?_ (szl (by simp; omega)) (js := [2, 3]) (by decide)
        (fun p _ => tg_pair) (fun p hp => ed_is (er_call (ea_cons (ed_var rfl) (ea_cons ed_int (ea_cons (ed_opI (ed_var rfl) ed_int) ea_nil))) ⟨_, _, _, rfl, rfl⟩) ?_) (fun _ _ => rfl))) ea_nil)) ?_)
      · rw [← zip_map]
        exact src_zipT (ea_cons (ed_var rfl) (ea_cons i0 ea_nil))
      · have := h2 p hp
        simp
        omega
      · simp

/-! is_let_of -/
abbrev sIsLet : Stmt := top 22
theorem scIsLet : FnScope ["rig", "row", "lot"] ["rig", "row"] (defScope sIsLet) := ⟨rfl, rfl, rfl, by decide +kernel, rfl, by decide +kernel, by decide +kernel⟩
def RIsLet : List PyData → Ab → Prop := fun ds P => ∃ (g : Rig) (r : Row), ds = [eRig g, eRow r] ∧ (∀ l ∈ g.2, LotOn r.length l) ∧ g.2.length ≤ 1000 ∧ P = dA (.bool (isLet g.2 r))
theorem ok_isLet (T : Tb mg) (D : Dn K mg "is_let_of" sIsLet ["rig", "row"]) (W : Cal P w K mg base 1 "does_meet" ["row", "lot"] (spA RMeet)) : Cal P w K mg base 2 "is_let_of" ["rig", "row"] (spA RIsLet) := by
  refine pure_cal D scIsLet (fun ds P h => ?_) fun f cdv A outer s H E hr ds Pb h => ?_
  · obtain ⟨sz, p, rfl, _⟩ := h
    rfl
  · obtain ⟨g, r, rfl, h1, hz, rfl⟩ := h
    refine ⟨_, pss_one (ps_ret (pe_not (w_any K T.any (pa_cons (pe_lc (own := [("lot", 2)]) (g := gName 2) (tt := tYes) rfl scIsLet.nd (pi_tup (w_ixT K (pv 0) pe_int)) (blkOk_by (by kernel_rfl))
        (fun _ _ _ _ _ => pg_one 2 scIsLet.nd) (fun _ _ _ _ _ => pts_nil) (fun _ _ _ _ _ => pe_cal W hr (pa_cons (pv 1) (pa_cons (pv 2) pa_nil)))) pa_nil)))), ?_⟩
    have i1 : Ed (tOp (rIxT K) (tVar 0) (tC (.int 1))) [some (dA (eRig g)), some (dA (eRow r)), none] (eFl g.2) := ed_ixT (d := eFl g.2) (ds := [eRow g.1, eFl g.2]) (ed_var rfl) ed_int (by rfl)
    exact rt_ret (ed_notV (ed_anyM (xs := g.2) (f := meets r) (ea_cons (Ef.ed (ef_lcA g.2 eLot _ (fun p => [some (dA (eRig g)), some (dA (eRow r)), some (dA (eLot p))]) (src_tup i1) (szl (by omega)) (js := [2]) (by decide)
        (fun p _ => tg_name) (fun p hp => er_call (ea_cons (ed_var rfl) (ea_cons (ed_var rfl) ea_nil)) ⟨r, p, rfl, h1 p hp, rfl⟩) (fun _ _ => rfl))) ea_nil)))

/-! rows_of -/
abbrev sRows : Stmt := top 23
theorem scRows : FnScope ["rig", "found", "many", "row", "value"] ["rig"] (defScope sRows) := ⟨rfl, rfl, rfl, by decide +kernel, rfl, by decide +kernel, by decide +kernel⟩
def RRows : List PyData → Ab → Prop := fun ds P => ∃ g : Rig, ds = [eRig g] ∧ RigWF g ∧ P = dA (.list ((rowsOf g).map eRow))
theorem eRow_snoc (r : Row) (v : Nat) : r.map eN ++ [eN v] = (r ++ [v]).map eN := by simp
theorem ok_rows (T : Tb mg) (D : Dn K mg "rows_of" sRows ["rig"]) (W : Cal P w K mg base 2 "is_let_of" ["rig", "row"] (spA RIsLet)) : Cal P w K mg base 3 "rows_of" ["rig"] (spA RRows) := by
  refine pure_cal D scRows (fun ds P h => ?_) fun f cdv A outer s H E hr ds Pb h => ?_
  · obtain ⟨g, rfl, _⟩ := h
    rfl
  · obtain ⟨g, rfl, h, rfl⟩ := h
    refine ⟨_, pss_cons (ps_asg (pe_lst (pa_cons (pe_tup pa_nil) pa_nil)) (pg_one 1 scRows.nd))
      (pss_cons (ps_for PassesOwn.never rfl (pi_tup (w_ixT K (pv 0) pe_int)) (pg_one 2 scRows.nd) (pss_one (ps_setLc2 (i := 1) (own := [("row", 3), ("value", 4)]) (vs1 := [4]) (g := gName 3) (tt := tYes) (g1 := gName 4) (tt1 := tYes) rfl scRows.nd rfl rfl rfl (pi_list (pv 1)) (blkOk_by (by kernel_rfl)) (by decide)
        (fun _ _ _ _ _ => pg_one 3 scRows.nd) (fun _ _ _ _ _ => pts_nil) (fun _ _ _ _ _ => pi_range1 (by rfl) T.range (pa_cons (pv 2) pa_nil)) (fun _ _ _ _ _ => pg_one 4 scRows.nd) (fun _ _ _ _ _ => pts_nil)
        (fun _ _ _ _ _ => pe_tup (w_star K (pv 3) (pa_cons (pv 4) pa_nil))))))
      (pss_one (ps_ret (pe_lc (own := [("row", 3)]) (g := gName 3) rfl scRows.nd (pi_list (pv 1)) (blkOk_by (by kernel_rfl)) (fun _ _ _ _ _ => pg_one 3 scRows.nd) (fun _ _ _ _ _ => pts_one (pt_val (pe_cal W hr (pa_cons (pv 0) (pa_cons (pv 3) pa_nil))))) (fun _ _ _ _ _ => pv 3))))), ?_⟩
    have i0 : Ed (tOp (rIxT K) (tVar 0) (tC (.int 0))) [some (dA (eRig g)), some (dA (.list [eRow []])), none, none, none] (eRow g.1) := ed_ixT (d := eRow g.1) (ds := [eRow g.1, eFl g.2]) (ed_var rfl) ed_int (by rfl)
    refine rt_seq (nx_asg (P := dA (.list [eRow []])) (ed_lst (ea_cons (ed_tup ea_nil (by decide)) ea_nil) (by decide))) (rt_seq (nx_for (js := [2]) g.1 eN (fun pre => [some (dA (eRig g)), some (dA (.list ((allRows pre).map eRow))), none, none, none])
      (fun pre m => [some (dA (eRig g)), some (dA (.list ((allRows pre).map eRow))), some (dA (eN m)), none, none]) (src_tup i0) (Wk.refl _) (fun pre x post e => tg_name) (fun pre x post e => nx_weak (nx_asg (P := dA (.list ((allRows (pre ++ [x])).map eRow))) (ed_is (Ef.ed (ef_lc2 (allRows pre) eRow (fun _ => List.range x) eN (fun r v => eRow (r ++ [v]))
        (fun r => [some (dA (eRig g)), some (dA (.list ((allRows pre).map eRow))), some (dA (eN x)), some (dA (eRow r)), none]) (fun r v => [some (dA (eRig g)), some (dA (.list ((allRows pre).map eRow))), some (dA (eN x)), some (dA (eRow r)), some (dA (eN v))])
        (js := [3]) (js1 := [4]) (src_list (ed_var rfl)) (by decide) (by decide) (fun r _ => noL_eRow r) (fun r _ => tg_name) (fun r _ => srcI_range (ed_var rfl) ?_) (fun r _ v _ => tg_name) (fun r hr v _ => ed_is (ed_tup (ea_starT (ed_var rfl) (ea_cons (ed_var rfl) ea_nil)) ?_) ?_) (fun r _ v _ => noL_eRow _) ?_)) ?_)) (.keep _ (.keep _ (.drop _ (.keep _ (.keep _ .nil)))))) (fun _ => rfl)) ?_)
    · have := (h.sz.2.2 x (by rw [e]; simp)).2
      omega
    · obtain ⟨q, _⟩ := allRows_in pre r hr
      have q2 : pre.length ≤ 3 := by
        have := h.sz.2.1
        rw [e] at this
        simp at this
        omega
      refine szl ?_
      simp
      omega
    · show PyData.tuple _ = PyData.tuple _
      congr 1
      exact eRow_snoc r v
    · have e2 : ((allRows pre).flatMap fun r => (List.range x).map fun v => eRow (r ++ [v])) = (stepRows (allRows pre) x).map eRow := by
        unfold stepRows
        rw [List.map_flatMap]
        simp [List.map_map, Function.comp_def]
      rw [e2, List.length_map]
      have e3 : stepRows (allRows pre) x = allRows (pre ++ [x]) := by unfold allRows; rw [List.foldl_append]; rfl
      rw [e3]
      have q := foldRows_len (pre ++ [x]) [[]] (fun n hn => (h.sz.2.2 n (by rw [e]; rcases List.mem_append.mp hn with z | z <;> simp at z ⊢ <;> simp [z])).2)
      have q2 : (pre ++ [x]).length ≤ 3 := by
        have := h.sz.2.1
        rw [e] at this
        simp at this ⊢
        omega
      have q3 := pow3 q2 (Nat.le_trans q (by simp))
      exact szl (Nat.le_trans q3 (by decide))
    · have e2 : ((allRows pre).flatMap fun r => (List.range x).map fun v => eRow (r ++ [v])) = (stepRows (allRows pre) x).map eRow := by
        unfold stepRows
        rw [List.map_flatMap]
        simp [List.map_map, Function.comp_def]
      rw [e2]
      have e3 : stepRows (allRows pre) x = allRows (pre ++ [x]) := by unfold allRows; rw [List.foldl_append]; rfl
      rw [e3]
    · refine rt_ret (Ef.ed (ef_lc (allRows g.1) eRow (isLet g.2) eRow (fun r => [some (dA (eRig g)), some (dA (.list ((allRows g.1).map eRow))), none, some (dA (eRow r)), none]) (src_list (ed_var rfl)) (szl (by have := allRows_len h.sz; omega)) (js := [3]) (by decide)
        (fun r _ => tg_name) (fun r hr => et_B (er_call (ea_cons (ed_var rfl) (ea_cons (ed_var rfl) ea_nil)) ⟨g, r, rfl, ?_, ?_, rfl⟩)) (fun r _ _ => ed_var rfl) (fun r _ => noL_eRow r)))
      · exact fun l hl => (h.lot l hl).on (allRows_in _ _ hr).1
      · have := h.few
        omega
end Rn
end
section
set_option maxHeartbeats 4000000
namespace Rn
open PySem L2 PyProof.Rows
variable {P : Program} {w : World} {K : PySem.W.Frag} {mg : Str → Option Value} {base : Heap}

/-! lots_on -/
def stepLots (sz : List Nat) (f : List Lot) (k : Nat) : List Lot := f.flatMap fun l => (List.range (sz.getD k 0)).map fun v => l ++ [(k, v)]
def lotsOn (sz ks : List Nat) : List Lot := ks.foldl (stepLots sz) [[]]
theorem stepLots_len (sz : List Nat) (f : List Lot) (k : Nat) : (stepLots sz f k).length = f.length * sz.getD k 0 := by
  unfold stepLots
  induction f with
  | nil => simp
  | cons r f ih => rw [List.flatMap_cons, List.length_append, ih, List.length_map, List.length_range, List.length_cons, Nat.succ_mul, Nat.add_comm]
theorem getD_le {sz : List Nat} (h : ∀ n ∈ sz, n ≤ 4) (k : Nat) : sz.getD k 0 ≤ 4 := by
  rw [List.getD_eq_getElem?_getD]
  cases e : sz[k]? with
  | none => simp
  | some n => exact h n (List.mem_of_getElem? e)
theorem lotsOn_len {sz : List Nat} (h : ∀ n ∈ sz, n ≤ 4) : ∀ (ks : List Nat) (f : List Lot), (ks.foldl (stepLots sz) f).length ≤ f.length * 4 ^ ks.length
  | [], f => by simp
  | n :: ks, f => by
    have ih := lotsOn_len h ks (stepLots sz f n)
    rw [stepLots_len] at ih
    have h1 := getD_le h n
    have h2 : f.length * sz.getD n 0 ≤ f.length * 4 := Nat.mul_le_mul_left _ h1
    have h3 : f.length * sz.getD n 0 * 4 ^ ks.length ≤ f.length * 4 * 4 ^ ks.length := Nat.mul_le_mul_right _ h2
    have h4 : f.length * 4 * 4 ^ ks.length = f.length * 4 ^ (n :: ks).length := by rw [List.length_cons, Nat.pow_succ', Nat.mul_assoc]
    show (ks.foldl (stepLots sz) (stepLots sz f n)).length ≤ _
    omega
theorem lotsOn_each (sz : List Nat) : ∀ (ks : List Nat) (f : List Lot) (n : Nat), (∀ l ∈ f, l.length = n) → ∀ l ∈ ks.foldl (stepLots sz) f, l.length = n + ks.length
  | [], f, n, h => by simpa using h
  | k :: ks, f, n, h => by
    have q := lotsOn_each sz ks (stepLots sz f k) (n + 1) (fun l hl => by
      obtain ⟨l0, h0, hl⟩ := List.mem_flatMap.mp hl
      obtain ⟨v, hv, rfl⟩ := List.mem_map.mp hl
      simp [h l0 h0])
    intro l hl
    have := q l hl
    simp
    omega
abbrev sLotsOn : Stmt := top 24
theorem scLotsOn : FnScope ["values", "knobs", "found", "knob", "lot", "value"] ["values", "knobs"] (defScope sLotsOn) := ⟨rfl, rfl, rfl, by decide +kernel, rfl, by decide +kernel, by decide +kernel⟩
def RLotsOn : List PyData → Ab → Prop := fun ds P => ∃ (sz ks : List Nat), ds = [eRow sz, eRow ks] ∧ SzWF sz ∧ ks.length ≤ 3 ∧ (∀ k ∈ ks, k < sz.length) ∧ P = dA (.list ((lotsOn sz ks).map eLot))
theorem eLot_snoc (l : Lot) (k v : Nat) : l.map ePr ++ [ePr (k, v)] = (l ++ [(k, v)]).map ePr := by simp
theorem ok_lotsOn (T : Tb mg) (D : Dn K mg "lots_on" sLotsOn ["values", "knobs"]) : Cal P w K mg base 1 "lots_on" ["values", "knobs"] (spA RLotsOn) := by
  refine pure_cal D scLotsOn (fun ds P h => ?_) fun f cdv A outer s H E hr ds Pb h => ?_
  · obtain ⟨sz, p, rfl, _⟩ := h
    rfl
  · obtain ⟨sz, ks, rfl, h, hk, hlt, rfl⟩ := h
    refine ⟨_, pss_cons (ps_asg (pe_lst (pa_cons (pe_tup pa_nil) pa_nil)) (pg_one 2 scLotsOn.nd))
      (pss_cons (ps_for PassesOwn.never rfl (pi_tup (pv 1)) (pg_one 3 scLotsOn.nd) (pss_one (ps_setLc2 (i := 2) (own := [("lot", 4), ("value", 5)]) (vs1 := [5]) (g := gName 4) (tt := tYes) (g1 := gName 5) (tt1 := tYes) rfl scLotsOn.nd rfl rfl rfl (pi_list (pv 2)) (blkOk_by (by kernel_rfl)) (by decide)
        (fun _ _ _ _ _ => pg_one 4 scLotsOn.nd) (fun _ _ _ _ _ => pts_nil) (fun _ _ _ _ _ => pi_range1 (by rfl) T.range (pa_cons (w_ixT K (pv 0) (pv 3)) pa_nil)) (fun _ _ _ _ _ => pg_one 5 scLotsOn.nd) (fun _ _ _ _ _ => pts_nil)
        (fun _ _ _ _ _ => pe_tup (w_star K (pv 4) (pa_cons (pe_tup (pa_cons (pv 3) (pa_cons (pv 5) pa_nil))) pa_nil))))))
      (pss_one (ps_ret (pv 2)))), ?_⟩
    have hq : ∀ pre x, (∃ post, ks = pre ++ x :: post) → ((lotsOn sz pre).flatMap fun l => (List.range (sz.getD x 0)).map fun v => eLot (l ++ [(x, v)])) = (lotsOn sz (pre ++ [x])).map eLot := fun pre x _ => by
      unfold lotsOn
      rw [List.foldl_append]
      show _ = (stepLots sz (pre.foldl (stepLots sz) [[]]) x).map eLot
      unfold stepLots
      rw [List.map_flatMap]
      simp [List.map_map, Function.comp_def]
    refine rt_seq (nx_asg (P := dA (.list [eLot []])) (ed_lst (ea_cons (ed_tup ea_nil (by decide)) ea_nil) (by decide))) (rt_seq (nx_for (js := [3]) ks eN (fun pre => [some (dA (eRow sz)), some (dA (eRow ks)), some (dA (.list ((lotsOn sz pre).map eLot))), none, none, none])
      (fun pre m => [some (dA (eRow sz)), some (dA (eRow ks)), some (dA (.list ((lotsOn sz pre).map eLot))), some (dA (eN m)), none, none]) (src_tup (ed_var rfl)) (Wk.refl _) (fun pre x post e => tg_name) (fun pre x post e => nx_weak (nx_asg (P := dA (.list ((lotsOn sz (pre ++ [x])).map eLot))) (ed_is (Ef.ed (ef_lc2 (lotsOn sz pre) eLot (fun _ => List.range (sz.getD x 0)) eN (fun l v => eLot (l ++ [(x, v)]))
        (fun l => [some (dA (eRow sz)), some (dA (eRow ks)), some (dA (.list ((lotsOn sz pre).map eLot))), some (dA (eN x)), some (dA (eLot l)), none]) (fun l v => [some (dA (eRow sz)), some (dA (eRow ks)), some (dA (.list ((lotsOn sz pre).map eLot))), some (dA (eN x)), some (dA (eLot l)), some (dA (eN v))])
        (js := [4]) (js1 := [5]) (src_list (ed_var rfl)) (by decide) (by decide) (fun r _ => noL_eLot r) (fun r _ => tg_name) (fun r _ => srcI_range (ed_ixT (d := eN (sz.getD x 0)) (ed_var rfl) (ed_var rfl) (at_row (hlt x (by rw [e]; simp)))) ?_) (fun r _ v _ => tg_name)
        (fun r hr v _ => ed_is (ed_tup (ea_starT (ed_var rfl) (ea_cons (ed_tup (ea_cons (ed_var rfl) (ea_cons (ed_var rfl) ea_nil)) (show 2 ≤ sizeLine by decide)) ea_nil)) ?_) ?_) (fun r _ v _ => noL_eLot _) ?_)) ?_)) (.keep _ (.keep _ (.keep _ (.drop _ (.keep _ (.keep _ .nil))))))) (fun _ => rfl)) (rt_ret (ed_var rfl)))
    · have := getD_le (fun n hn => (h.2.2 n hn).2) x
      omega
    · have q := lotsOn_each sz pre [[]] 0 (fun l hl => by simp at hl; simp [hl]) r hr
      have q2 : pre.length ≤ 3 := by
        rw [e] at hk
        simp at hk
        omega
      refine szl ?_
      simp
      omega
    · show PyData.tuple _ = PyData.tuple _
      congr 1
      exact eLot_snoc r x v
    · rw [hq pre x ⟨post, e⟩, List.length_map]
      have q := lotsOn_len (fun n hn => (h.2.2 n hn).2) (pre ++ [x]) [[]]
      have q2 : (pre ++ [x]).length ≤ 3 := by
        rw [e] at hk
        simp at hk ⊢
        omega
      have q3 := pow3 q2 (Nat.le_trans q (by simp))
      exact szl (Nat.le_trans q3 (by decide))
    · rw [hq pre x ⟨post, e⟩]

/-! knobs_by -/
def knobsAll (many size : Nat) : List Row := (List.range size).foldl (fun f _ => stepRows f many) [[]]
def knobsBy (many size : Nat) : List Row := (knobsAll many size).filter rising
theorem knobsAll_eq (many : Nat) : ∀ size, knobsAll many size = allRows (List.replicate size many)
  | 0 => rfl
  | n + 1 => by
    unfold knobsAll allRows
    rw [List.range_succ, List.foldl_append, List.replicate_succ', List.foldl_append]
    have := knobsAll_eq many n
    unfold knobsAll allRows at this
    rw [this]
    rfl
theorem knobsAll_len {many size : Nat} (h1 : many ≤ 4) (h2 : size ≤ 3) : (knobsAll many size).length ≤ 64 := by
  rw [knobsAll_eq]
  have q := foldRows_len (List.replicate size many) [[]] (fun n hn => by rw [(List.mem_replicate.mp hn).2]; exact h1)
  exact pow3 (k := (List.replicate size many).length) (by simpa using h2) (Nat.le_trans q (by simp))
theorem knobsAll_in {many size : Nat} {r : Row} (h : r ∈ knobsAll many size) : r.length = size ∧ ∀ k ∈ r, k < many := by
  rw [knobsAll_eq] at h
  obtain ⟨h1, h2⟩ := allRows_in _ r h
  rw [List.length_replicate] at h1
  refine ⟨h1, fun k hk => ?_⟩
  obtain ⟨i, hi, rfl⟩ := List.mem_iff_getElem.mp hk
  have : (r[i], many) ∈ r.zip (List.replicate size many) := by
    rw [List.mem_iff_getElem]
    exact ⟨i, by simp; omega, by simp⟩
  exact h2 _ this
abbrev sKnobs : Stmt := top 25
theorem scKnobs : FnScope ["many", "size", "found", "turn", "row", "knob"] ["many", "size"] (defScope sKnobs) := ⟨rfl, rfl, rfl, by decide +kernel, rfl, by decide +kernel, by decide +kernel⟩
def RKnobs : List PyData → List PyData → Prop := fun ds es => ∃ (n k : Nat), ds = [eN n, eN k] ∧ n ≤ 4 ∧ k ≤ 3 ∧ es = (knobsBy n k).map eRow
theorem ok_knobs (T : Tb mg) (D : Dn K mg "knobs_by" sKnobs ["many", "size"]) (W : Cal P w K mg base 1 "are_rising" ["row"] (spA RRising)) : Cal P w K mg base 2 "knobs_by" ["many", "size"] (spF RKnobs) := by
  refine new_cal D scKnobs (fun ds P h => ?_) fun f cdv A outer s H E hr ds Pb h => ?_
  · obtain ⟨sz, p, rfl, _⟩ := h
    rfl
  · obtain ⟨n, k, rfl, h1, h2, rfl⟩ := h
    refine ⟨_, pss_cons (ps_asg (pe_lst (pa_cons (pe_tup pa_nil) pa_nil)) (pg_one 2 scKnobs.nd))
      (pss_cons (ps_for PassesOwn.never rfl (pi_range1 (by rfl) T.range (pa_cons (pv 1) pa_nil)) (pg_one 3 scKnobs.nd) (pss_one (ps_setLc2 (i := 2) (own := [("row", 4), ("knob", 5)]) (vs1 := [5]) (g := gName 4) (tt := tYes) (g1 := gName 5) (tt1 := tYes) rfl scKnobs.nd rfl rfl rfl (pi_list (pv 2)) (blkOk_by (by kernel_rfl)) (by decide)
        (fun _ _ _ _ _ => pg_one 4 scKnobs.nd) (fun _ _ _ _ _ => pts_nil) (fun _ _ _ _ _ => pi_range1 (by rfl) T.range (pa_cons (pv 0) pa_nil)) (fun _ _ _ _ _ => pg_one 5 scKnobs.nd) (fun _ _ _ _ _ => pts_nil)
        (fun _ _ _ _ _ => pe_tup (w_star K (pv 4) (pa_cons (pv 5) pa_nil))))))
      (pss_one (ps_ret (pe_lc (own := [("row", 4)]) (g := gName 4) rfl scKnobs.nd (pi_list (pv 2)) (blkOk_by (by kernel_rfl)) (fun _ _ _ _ _ => pg_one 4 scKnobs.nd) (fun _ _ _ _ _ => pts_one (pt_val (pe_cal W hr (pa_cons (pv 4) pa_nil)))) (fun _ _ _ _ _ => pv 4))))), ?_⟩
    have hq : ∀ i, ((knobsAll n i).flatMap fun r => (List.range n).map fun v => eRow (r ++ [v])) = (knobsAll n (i + 1)).map eRow := fun i => by
      unfold knobsAll
      rw [List.range_succ, List.foldl_append]
      show _ = (stepRows _ n).map eRow
      unfold stepRows
      rw [List.map_flatMap]
      simp [List.map_map, Function.comp_def]
    refine rf_seq (nx_asg (P := dA (.list [eRow []])) (ed_lst (ea_cons (ed_tup ea_nil (by decide)) ea_nil) (by decide))) (rf_seq (nx_is (nx_for (js := [3]) (List.range k) (fun i => .int (i : Nat)) (fun pre => [some (dA (eN n)), some (dA (eN k)), some (dA (.list ((knobsAll n pre.length).map eRow))), none, none, none])
      (fun pre m => [some (dA (eN n)), some (dA (eN k)), some (dA (.list ((knobsAll n pre.length).map eRow))), some (dA (.int (m : Nat))), none, none]) (src_range (ed_var rfl) (by omega)) (Wk.refl _) (fun pre x post e => tg_name) (fun pre x post e => nx_weak (nx_asg (P := dA (.list ((knobsAll n (pre ++ [x]).length).map eRow))) (ed_is (Ef.ed (ef_lc2 (knobsAll n pre.length) eRow (fun _ => List.range n) eN (fun r v => eRow (r ++ [v]))
        (fun r => [some (dA (eN n)), some (dA (eN k)), some (dA (.list ((knobsAll n pre.length).map eRow))), some (dA (.int (x : Nat))), some (dA (eRow r)), none]) (fun r v => [some (dA (eN n)), some (dA (eN k)), some (dA (.list ((knobsAll n pre.length).map eRow))), some (dA (.int (x : Nat))), some (dA (eRow r)), some (dA (eN v))])
        (js := [4]) (js1 := [5]) (src_list (ed_var rfl)) (by decide) (by decide) (fun r _ => noL_eRow r) (fun r _ => tg_name) (fun r _ => srcI_range (ed_var rfl) (by omega)) (fun r _ v _ => tg_name) (fun r hr v _ => ed_is (ed_tup (ea_starT (ed_var rfl) (ea_cons (ed_var rfl) ea_nil)) ?_) ?_) (fun r _ v _ => noL_eRow _) ?_)) ?_)) (.keep _ (.keep _ (.keep _ (.drop _ (.keep _ (.keep _ .nil))))))) (fun _ => rfl)) (by rw [List.length_range])) ?_)
    · have q := (knobsAll_in hr).1
      have q2 : pre.length < k := by
        have := congrArg List.length e
        simp at this
        omega
      refine szl ?_
      simp
      omega
    · show PyData.tuple _ = PyData.tuple _
      congr 1
      exact eRow_snoc r v
    · rw [hq, List.length_map]
      have q2 : pre.length < k := by
        have := congrArg List.length e
        simp at this
        omega
      exact szl (Nat.le_trans (knobsAll_len h1 (by omega)) (by decide))
    · rw [hq, List.length_append]
      rfl
    · refine rf_ret (ef_lc (knobsAll n k) eRow rising eRow (fun r => [some (dA (eN n)), some (dA (eN k)), some (dA (.list ((knobsAll n k).map eRow))), none, some (dA (eRow r)), none]) (src_list (ed_var rfl)) (szl (by have := knobsAll_len h1 h2; omega)) (js := [4]) (by decide)
        (fun r _ => tg_name) (fun r hr => et_B (er_call (ea_cons (ed_var rfl) ea_nil) ⟨r, ?_, .inr rfl, rfl⟩)) (fun r _ _ => ed_var rfl) (fun r _ => noL_eRow r))
      have := (knobsAll_in hr).1
      omega
end Rn
end
section
set_option maxHeartbeats 4000000
namespace Rn
open PySem L2 PyProof.Rows
variable {P : Program} {w : World} {K : PySem.W.Frag} {mg : Str → Option Value} {base : Heap}

/-! does_fail -/
def fails (r : Row) (f : Fl) : Bool := f.any (meets r)
def FlOn (n : Nat) (f : Fl) : Prop := f.length ≤ 1000 ∧ ∀ l ∈ f, LotOn n l
abbrev sFail : Stmt := top 33
theorem scFail : FnScope ["row", "faults", "lot"] ["row", "faults"] (defScope sFail) := ⟨rfl, rfl, rfl, by decide +kernel, rfl, by decide +kernel, by decide +kernel⟩
def RFail : List PyData → Ab → Prop := fun ds P => ∃ (r : Row) (f : Fl), ds = [eRow r, eFl f] ∧ FlOn r.length f ∧ P = dA (.bool (fails r f))
theorem ok_fail (T : Tb mg) (D : Dn K mg "does_fail" sFail ["row", "faults"]) (W : Cal P w K mg base 1 "does_meet" ["row", "lot"] (spA RMeet)) : Cal P w K mg base 2 "does_fail" ["row", "faults"] (spA RFail) := by
  refine pure_cal D scFail (fun ds P h => ?_) fun f cdv A outer s H E hr ds Pb h => ?_
  · obtain ⟨sz, p, rfl, _⟩ := h
    rfl
  · obtain ⟨r, fl, rfl, ⟨hz, h1⟩, rfl⟩ := h
    refine ⟨_, pss_one (ps_ret (w_any K T.any (pa_cons (pe_lc (own := [("lot", 2)]) (g := gName 2) (tt := tYes) rfl scFail.nd (pi_tup (pv 1)) (blkOk_by (by kernel_rfl))
        (fun _ _ _ _ _ => pg_one 2 scFail.nd) (fun _ _ _ _ _ => pts_nil) (fun _ _ _ _ _ => pe_cal W hr (pa_cons (pv 0) (pa_cons (pv 2) pa_nil)))) pa_nil))), ?_⟩
    exact rt_ret (ed_anyM (xs := fl) (f := meets r) (ea_cons (Ef.ed (ef_lcA fl eLot _ (fun p => [some (dA (eRow r)), some (dA (eFl fl)), some (dA (eLot p))]) (src_tup (ed_var rfl)) (szl (by omega)) (js := [2]) (by decide)
        (fun p _ => tg_name) (fun p hp => er_call (ea_cons (ed_var rfl) (ea_cons (ed_var rfl) ea_nil)) ⟨r, p, rfl, h1 p hp, rfl⟩) (fun _ _ => rfl))) ea_nil))

/-! outcomes_of -/
def signOf (rows : List Row) (f : Fl) : List Bool := rows.map fun r => fails r f
def eSign (b : List Bool) : PyData := .tuple (b.map .bool)
abbrev sOutcomes : Stmt := top 34
theorem scOutcomes : FnScope ["rows", "faults", "row"] ["rows", "faults"] (defScope sOutcomes) := ⟨rfl, rfl, rfl, by decide +kernel, rfl, by decide +kernel, by decide +kernel⟩
def ROutcomes : List PyData → Ab → Prop := fun ds P => ∃ (rows : List Row) (f : Fl), ds = [.list (rows.map eRow), eFl f] ∧ rows.length ≤ 1000 ∧ (∀ r ∈ rows, FlOn r.length f) ∧ P = dA (eSign (signOf rows f))
theorem ok_outcomes (T : Tb mg) (D : Dn K mg "outcomes_of" sOutcomes ["rows", "faults"]) (W : Cal P w K mg base 2 "does_fail" ["row", "faults"] (spA RFail)) : Cal P w K mg base 3 "outcomes_of" ["rows", "faults"] (spA ROutcomes) := by
  refine pure_cal D scOutcomes (fun ds P h => ?_) fun f cdv A outer s H E hr ds Pb h => ?_
  · obtain ⟨sz, p, rfl, _⟩ := h
    rfl
  · obtain ⟨rows, fl, rfl, hz, h1, rfl⟩ := h
    refine ⟨_, pss_one (ps_ret (w_tuple K T.tuple (pa_cons (pe_lc (own := [("row", 2)]) (g := gName 2) (tt := tYes) rfl scOutcomes.nd (pi_list (pv 0)) (blkOk_by (by kernel_rfl))
        (fun _ _ _ _ _ => pg_one 2 scOutcomes.nd) (fun _ _ _ _ _ => pts_nil) (fun _ _ _ _ _ => pe_cal W hr (pa_cons (pv 2) (pa_cons (pv 1) pa_nil)))) pa_nil))), ?_⟩
    refine rt_ret (ed_is (ed_tupOf (ea_cons (Ef.ed (ef_lcA rows eRow (fun r => .bool (fails r fl)) (fun p => [some (dA (.list (rows.map eRow))), some (dA (eFl fl)), some (dA (eRow p))]) (src_list (ed_var rfl)) (szl (by omega)) (js := [2]) (by decide)
        (fun p _ => tg_name) (fun p hp => er_call (ea_cons (ed_var rfl) (ea_cons (ed_var rfl) ea_nil)) ⟨p, fl, rfl, h1 p hp, rfl⟩) (fun _ _ => rfl))) ea_nil)) ?_)
    show PyData.tuple _ = PyData.tuple _
    rw [show signOf rows fl = rows.map fun r => fails r fl from rfl, List.map_map]
    rfl

/-! does_fit -/
abbrev Log := List (Row × Bool)
def fits (f : Fl) (log : Log) : Bool := log.all fun p => decide (fails p.1 f = p.2)
abbrev sFit : Stmt := top 39
theorem scFit : FnScope ["faults", "log", "row", "outcome"] ["faults", "log"] (defScope sFit) := ⟨rfl, rfl, rfl, by decide +kernel, rfl, by decide +kernel, by decide +kernel⟩
def RFit : List PyData → Ab → Prop := fun ds P => ∃ (f : Fl) (log : Log), ds = [eFl f, eLog log] ∧ log.length ≤ 1000 ∧ (∀ p ∈ log, FlOn p.1.length f) ∧ P = dA (.bool (fits f log))
theorem ok_fit (T : Tb mg) (D : Dn K mg "does_fit" sFit ["faults", "log"]) (W : Cal P w K mg base 2 "does_fail" ["row", "faults"] (spA RFail)) : Cal P w K mg base 3 "does_fit" ["faults", "log"] (spA RFit) := by
  refine pure_cal D scFit (fun ds P h => ?_) fun f cdv A outer s H E hr ds Pb h => ?_
  · obtain ⟨sz, p, rfl, _⟩ := h
    rfl
  · obtain ⟨fl, log, rfl, hz, h1, rfl⟩ := h
    refine ⟨_, pss_one (ps_ret (w_all K T.all (pa_cons (pe_lc (own := [("row", 2), ("outcome", 3)]) (g := gTup K 2 (gCons (gName 2) (gCons (gName 3) gNil))) (tt := tYes) rfl scFit.nd (pi_tup (pv 1)) (blkOk_by (by kernel_rfl))
        (fun _ _ _ _ _ => pg_two 2 3 rfl scFit.nd) (fun _ _ _ _ _ => pts_nil) (fun _ _ _ _ _ => pe_cmpR op_eq (pe_cal W hr (pa_cons (pv 2) (pa_cons (pv 0) pa_nil))) (pv 3) (nomark _))) pa_nil))), ?_⟩
    exact rt_ret (ed_allM (xs := log) (f := fun p => decide (fails p.1 fl = p.2)) (ea_cons (Ef.ed (ef_lcA log eOut _ (fun p => [some (dA (eFl fl)), some (dA (eLog log)), some (dA (eRow p.1)), some (dA (.bool p.2))]) (src_tup (ed_var rfl)) (szl (by omega)) (js := [2, 3]) (by decide)
        (fun p _ => tg_pair) (fun p hp => ed_eqB (er_call (ea_cons (ed_var rfl) (ea_cons (ed_var rfl) ea_nil)) ⟨p.1, fl, rfl, h1 p hp, rfl⟩) (ed_var rfl)) (fun _ _ => rfl))) ea_nil))

/-! need_row -/
abbrev sNeedRow : Stmt := top 38
theorem scNeedRow : FnScope ["rig", "row"] ["rig", "row"] (defScope sNeedRow) := ⟨rfl, rfl, rfl, by decide +kernel, rfl, by decide +kernel, by decide +kernel⟩
def RNeedRow : List PyData → Ab → Prop := fun ds P => ∃ (g : Rig) (r : Row), ds = [eRig g, eRow r] ∧ RigWF g ∧ r ∈ rowsOf g ∧ P = dA (eRow r)
theorem ok_needRow (T : Tb mg) (D : Dn K mg "need_row" sNeedRow ["rig", "row"]) (W : Cal P w K mg base 2 "is_row" ["rig", "value"] (spA RIsRow)) (W2 : Cal P w K mg base 2 "is_let_of" ["rig", "row"] (spA RIsLet)) : Cal P w K mg base 3 "need_row" ["rig", "row"] (spA RNeedRow) := by
  refine pure_cal D scNeedRow (fun ds P h => ?_) fun f cdv A outer s H E hr ds Pb h => ?_
  · obtain ⟨sz, p, rfl, _⟩ := h
    rfl
  · obtain ⟨g, r, rfl, h, hm, rfl⟩ := h
    obtain ⟨h1, h2⟩ := rowsOf_in hm
    refine ⟨_, pss_cons (ps_if (PW.pt (pw_or (pt_not (pt_val (pe_cal W hr (pa_cons (pv 0) (pa_cons (pv 1) pa_nil))))) (pw_or1 (pt_not (pt_val (pe_cal W2 hr (pa_cons (pv 0) (pa_cons (pv 1) pa_nil)))))))) pss_never pss_nil) (pss_one (ps_ret (pv 1))), ?_⟩
    refine rt_seq (nx_skip (et_is (et_or (et_not (et_B (er_call (ea_cons (ed_var rfl) (ea_cons (ed_var rfl) ea_nil)) ⟨g, r, rfl, h1, by have := h.sz.2.1; omega, rfl⟩))) fun _ => et_not (et_B (er_call (ea_cons (ed_var rfl) (ea_cons (ed_var rfl) ea_nil)) ⟨g, r, rfl, fun l hl => (h.lot l hl).on h1.1, by have := h.few; omega, rfl⟩))) ?_)) (rt_ret (ed_var rfl))
    simp [h2]

/-! need_shape -/
def ShWF (g : Rig) (s : Nat × Nat) : Prop := 1 ≤ s.1 ∧ s.1 ≤ g.1.length ∧ 1 ≤ s.2 ∧ s.2 ≤ 2
abbrev sNeedShape : Stmt := top 30
theorem scNeedShape : FnScope ["rig", "shape"] ["rig", "shape"] (defScope sNeedShape) := ⟨rfl, rfl, rfl, by decide +kernel, rfl, by decide +kernel, by decide +kernel⟩
def RNeedShape : List PyData → Ab → Prop := fun ds P => ∃ (g : Rig) (s : Nat × Nat), ds = [eRig g, eSh s] ∧ RigWF g ∧ ShWF g s ∧ P = dA (eSh s)
theorem ok_needShape (T : Tb mg) (D : Dn K mg "need_shape" sNeedShape ["rig", "shape"]) (W : Cal P w K mg base 5 "need_rig" ["rig"] (spA RNeedRig)) (W2 : Cal P w K mg base 1 "is_whole" ["value", "least", "most"] (spA RWhole)) : Cal P w K mg base 6 "need_shape" ["rig", "shape"] (spA RNeedShape) := by
  refine pure_cal D scNeedShape (fun ds P h => ?_) fun f cdv A outer s H E hr ds Pb h => ?_
  · obtain ⟨sz, p, rfl, _⟩ := h
    rfl
  · obtain ⟨g, sh, rfl, h, ⟨s1, s2, s3, s4⟩, rfl⟩ := h
    refine ⟨_, pss_cons (ps_expr (pe_cal W hr (pa_cons (pv 0) pa_nil))) (pss_cons (ps_if (PW.pt (pw_or (pt_not (pt_val (w_isi K T.isi (pv 1) (w_ty "tuple" T.tuple boot_tuple)))) (pw_or1 (pt_cmpR op_ne (w_len K T.len (pa_cons (pv 1) pa_nil)) pe_int (nomark _))))) pss_never pss_nil)
      (pss_cons (ps_if (PW.pt (pw_or (pt_not (pt_val (pe_cal W2 hr (pa_cons (w_ixT K (pv 1) pe_int) (pa_cons pe_int (pa_cons (w_min T.min (pa_cons pe_int (pa_cons (w_len K T.len (pa_cons (w_ixT K (pv 0) pe_int) pa_nil)) pa_nil))) pa_nil))))))
        (pw_or1 (pt_not (pt_val (pe_cal W2 hr (pa_cons (w_ixT K (pv 1) pe_int) (pa_cons pe_int (pa_cons (pe_num T.once) pa_nil))))))))) pss_never pss_nil)
      (pss_one (ps_ret (pv 1))))), ?_⟩
    have i0 : Ed (tOp (rIxT K) (tVar 0) (tC (.int 0))) [some (dA (eRig g)), some (dA (eSh sh))] (eRow g.1) := ed_ixT (d := eRow g.1) (ds := [eRow g.1, eFl g.2]) (ed_var rfl) ed_int (by rfl)
    have j0 : Ed (tOp (rIxT K) (tVar 1) (tC (.int 0))) [some (dA (eRig g)), some (dA (eSh sh))] (eN sh.1) := ed_ixT (d := eN sh.1) (ds := [eN sh.1, eN sh.2]) (ed_var rfl) ed_int (by rfl)
    have j1 : Ed (tOp (rIxT K) (tVar 1) (tC (.int 1))) [some (dA (eRig g)), some (dA (eSh sh))] (eN sh.2) := ed_ixT (d := eN sh.2) (ds := [eN sh.1, eN sh.2]) (ed_var rfl) ed_int (by rfl)
    refine rt_seq (nx_drop (P := dA (eRig g)) (er_call (ea_cons (ed_var rfl) ea_nil) ⟨g, rfl, h, rfl⟩)) (rt_seq (nx_skip (et_is (et_or (et_not (et_B (ed_isi (d := eSh sh) (ed_var rfl) k_tup_tup))) fun _ => et_test (ed_neI (ed_lenT (ea_cons (ed_var rfl) ea_nil)) ed_int)) ?_))
      (rt_seq (nx_skip (et_is (et_or (et_not (et_B (er_call (ea_cons j0 (ea_cons ed_int (ea_cons (ed_min2 (ea_cons ed_int (ea_cons (ed_lenT (ea_cons i0 ea_nil)) ea_nil))) ea_nil))) ⟨_, _, _, rfl, rfl⟩))) fun _ =>
        et_not (et_B (er_call (ea_cons j1 (ea_cons ed_int (ea_cons ed_int ea_nil))) ⟨_, _, _, rfl, rfl⟩))) ?_)) (rt_ret (ed_var rfl))))
    · simp
    · have := h.sz.2.1
      simp
      omega
end Rn
end
section
set_option maxHeartbeats 4000000
namespace Rn
open PySem L2 PyProof.Rows PySem.W
variable {P : Program} {w : World} {K : PySem.W.Frag} {mg : Str → Option Value} {base : Heap}

/-! keys told plainly -/
theorem keyOf_ePr {p q : Nat × Nat} (h : keyOf (ePr p) = keyOf (ePr q)) : p = q := by
  obtain ⟨a, b⟩ := p
  obtain ⟨c, d⟩ := q
  have h' : NestedKey.tup [.num (a : Nat), .num (b : Nat)] = NestedKey.tup [.num (c : Nat), .num (d : Nat)] := h
  injection h' with h'
  injection h' with h1 h2
  injection h2 with h2 _
  injection h1 with h1
  injection h2 with h2
  rw [Int.ofNat_inj.mp h1, Int.ofNat_inj.mp h2]
theorem keysOf_inj {α : Type} {f : α → PyData} (hf : ∀ a b, keyOf (f a) = keyOf (f b) → a = b) : ∀ {as bs : List α}, keysOf (as.map f) = keysOf (bs.map f) → as = bs
  | [], [], _ => rfl
  | [], _ :: _, h => by simp [keysOf] at h
  | _ :: _, [], h => by simp [keysOf] at h
  | a :: as, b :: bs, h => by
    have h' : keyOf (f a) :: keysOf (as.map f) = keyOf (f b) :: keysOf (bs.map f) := h
    injection h' with h1 h2
    rw [hf a b h1, keysOf_inj hf h2]
theorem keyOf_eLot {l m : Lot} (h : keyOf (eLot l) = keyOf (eLot m)) : l = m := by
  have h' : NestedKey.tup (keysOf (l.map ePr)) = NestedKey.tup (keysOf (m.map ePr)) := h
  injection h' with h'
  exact keysOf_inj (fun _ _ => keyOf_ePr) h'
theorem depth_keys {α : Type} {f : α → PyData} {n : Nat} (hf : ∀ a, (keyOf (f a)).depth ≤ n) : ∀ as : List α, NestedKey.depthAll (keysOf (as.map f)) ≤ n
  | [] => Nat.zero_le _
  | a :: as => by
    show max (keyOf (f a)).depth (NestedKey.depthAll (keysOf (as.map f))) ≤ n
    exact Nat.max_le.mpr ⟨hf a, depth_keys hf as⟩
theorem kd_lot (l : Lot) : Kd (eLot l) := ⟨⟨_, rfl⟩, noL_eLot l, by
  have q := depth_keys (f := ePr) (n := 1) (fun a => Nat.le_refl _) l
  show NestedKey.depthAll (keysOf (l.map ePr)) + 1 ≤ 8
  omega⟩
theorem depthAll_map {α : Type} {f : α → PyData} {n : Nat} (hf : ∀ a, (f a).depth ≤ n) : ∀ as : List α, PyData.depthAll (as.map f) ≤ n
  | [] => Nat.zero_le _
  | a :: as => by
    show max (f a).depth (PyData.depthAll (as.map f)) ≤ n
    exact Nat.max_le.mpr ⟨hf a, depthAll_map hf as⟩
theorem depth_lot (l : Lot) : (eLot l).depth ≤ 2 := by
  have q := depthAll_map (f := ePr) (n := 1) (fun a => Nat.le_refl _) l
  show PyData.depthAll (l.map ePr) + 1 ≤ 2
  omega
theorem depth_fl (f : Fl) : (eFl f).depth ≤ 3 := by
  have q := depthAll_map (f := eLot) (n := 2) depth_lot f
  show PyData.depthAll (f.map eLot) + 1 ≤ 3
  omega
theorem alike_map {α : Type} {f : α → PyData} (hf : ∀ a b, alike (f a) (f b) = true) : ∀ as bs : List α, alikeAll (as.map f) (bs.map f) = true
  | [], _ => by simp [alikeAll]
  | _ :: _, [] => by simp [alikeAll]
  | a :: as, b :: bs => by
    show alikeAll (f a :: as.map f) (f b :: bs.map f) = true
    rw [alikeAll, alike_map hf as bs, hf a b]
    rfl
theorem alike_pr (p q : Nat × Nat) : alike (ePr p) (ePr q) = true := by simp [ePr, eN, alike, alikeAll]
theorem alike_lot (l m : Lot) : alike (eLot l) (eLot m) = true := by
  show alike (.tuple _) (.tuple _) = true
  rw [alike]
  exact alike_map alike_pr l m
theorem alike_fl (f g : Fl) : alike (eFl f) (eFl g) = true := by
  show alike (.tuple _) (.tuple _) = true
  rw [alike]
  exact alike_map alike_lot f g
def sortLots (l : List Lot) : List Lot := l.mergeSort (dataLe false eLot)
def sortFls (l : List Fl) : List Fl := l.mergeSort (dataLe false eFl)
theorem srt_lots {l : List Lot} (h : ∀ m ∈ l, m ≠ []) : Srt (l.map eLot) := by
  refine ⟨AllAlike.of alike_lot, .inl (.inl fun d hd => ?_)⟩
  obtain ⟨m, hm, rfl⟩ := List.mem_map.mp hd
  cases m with
  | nil => exact absurd rfl (h [] hm)
  | cons a as => exact ⟨_, _, rfl⟩

theorem w_nin (P : Program) (w : World) {X : Cx} {k : Nat} (hr : Room k X.A) (hP : X.prog = P := by rfl) (hw : X.w = w := by rfl) : OpR X (compareOp .In) (rNIn P w) := by
  subst hP hw
  exact op_nin (by have := hr.units; omega)
theorem w_nnotin (P : Program) (w : World) {X : Cx} {k : Nat} (hr : Room k X.A) (hP : X.prog = P := by rfl) (hw : X.w = w := by rfl) : OpR X (compareOp .NotIn) (rNNotIn P w) := by
  subst hP hw
  exact op_nnotin (by have := hr.units; omega)
/-! lots_of -/
def restr (r : Row) (ks : List Nat) : Lot := ks.map fun k => (k, r.getD k 0)
def lotsRaw (g : Rig) (k : Nat) : List Lot := (knobsBy g.1.length k).flatMap fun ks => (lotsOn g.1 ks).filter fun l => (rowsOf g).any fun r => decide (restr r ks = l)
def progLots (g : Rig) (k : Nat) : List Lot := sortLots (lotsRaw g k)
theorem lots_part_len {g : Rig} (h : RigWF g) {k : Nat} (hk : k ≤ g.1.length) : ∀ l : List (List Nat), (∀ ks ∈ l, ks.length = k) → (l.flatMap fun ks => (lotsOn g.1 ks).filter fun l => (rowsOf g).any fun r => decide (restr r ks = l)).length ≤ l.length * 64
  | [], _ => by simp
  | ks :: l, hm => by
    have ih := lots_part_len h hk l fun x hx => hm x (by simp [hx])
    rw [List.flatMap_cons, List.length_append, List.length_cons]
    have q := lotsOn_len (fun n hn => (h.sz.2.2 n hn).2) ks [[]]
    have q2 := hm ks (by simp)
    have q3 := pow3 (k := ks.length) (by have := h.sz.2.1; omega) (Nat.le_trans q (by simp))
    have q4 := List.length_filter_le (fun l => (rowsOf g).any fun r => decide (restr r ks = l)) (lotsOn g.1 ks)
    have q5 : (lotsOn g.1 ks).length ≤ 64 := q3
    omega
theorem lots_each {g : Rig} {k : Nat} {l : Lot} (h : l ∈ lotsRaw g k) : l.length = k := by
  obtain ⟨ks, hks, hl⟩ := List.mem_flatMap.mp h
  have q := lotsOn_each g.1 ks [[]] 0 (fun l hl => by simp at hl; simp [hl]) l (List.mem_filter.mp hl).1
  have q2 := (knobsAll_in (List.mem_filter.mp hks).1).1
  omega
abbrev sLots : Stmt := top 26
theorem scLots : FnScope ["rig", "size", "rows", "found", "knobs", "met", "row", "knob", "lot"] ["rig", "size"] (defScope sLots) := ⟨rfl, rfl, rfl, by decide +kernel, rfl, by decide +kernel, by decide +kernel⟩
def RLots : List PyData → Ab → Prop := fun ds P => ∃ (g : Rig) (k : Nat), ds = [eRig g, eN k] ∧ RigWF g ∧ 1 ≤ k ∧ k ≤ g.1.length ∧ P = dA (.list ((progLots g k).map eLot))
theorem ok_lots (T : Tb mg) (D : Dn K mg "lots_of" sLots ["rig", "size"]) (W1 : Cal P w K mg base 3 "rows_of" ["rig"] (spA RRows)) (W2 : Cal P w K mg base 2 "knobs_by" ["many", "size"] (spF RKnobs)) (W3 : Cal P w K mg base 1 "lots_on" ["values", "knobs"] (spA RLotsOn)) : Cal P w K mg base 4 "lots_of" ["rig", "size"] (spA RLots) := by
  refine pure_cal D scLots (fun ds P h => ?_) fun f cdv A outer s H E hr ds Pb h => ?_
  · obtain ⟨sz, p, rfl, _⟩ := h
    rfl
  · obtain ⟨g, k, rfl, h, hk1, hk2, rfl⟩ := h
    refine ⟨_, pss_cons (ps_par (i := 2) (j := 3) rfl scLots.nd rfl rfl (by decide) rfl rfl (pa_cons (pe_cal W1 hr (pa_cons (pv 0) pa_nil)) (pa_cons (pe_lst pa_nil) pa_nil)) (by rfl))
      (pss_cons (ps_for PassesOwn.never rfl (pi_list (pe_cal W2 hr (pa_cons (w_len K T.len (pa_cons (w_ixT K (pv 0) pe_int) pa_nil)) (pa_cons (pv 1) pa_nil)))) (pg_one 4 scLots.nd)
        (pss_cons (ps_asg (w_dcn hr (own := [("row", 6)]) (g := gName 6) (tt := tYes) rfl scLots.nd (pi_list (pv 2)) (blkOk_by (by kernel_rfl)) (fun _ _ _ _ _ => pg_one 6 scLots.nd) (fun _ _ _ _ _ => pts_nil)
            (fun _ _ _ _ _ => w_tuple K T.tuple (pa_cons (pe_lc (own := [("knob", 7)]) (g := gName 7) (tt := tYes) rfl scLots.nd (wi_tup K (pv 4)) (blkOk_by (by kernel_rfl)) (fun _ _ _ _ _ => pg_one 7 scLots.nd) (fun _ _ _ _ _ => pts_nil) (fun _ _ _ _ _ => pe_tup (pa_cons (pv 7) (pa_cons (w_ixT K (pv 6) (pv 7)) pa_nil)))) pa_nil)) (fun _ _ _ _ _ => pe_bl)) (pg_one 5 scLots.nd))
        (pss_one (ps_expr (pe_bm F.plainAttrs_list F.slot_list_extend F.type_list_extend mt_extend (pv 3) (pa_cons (pe_lc (own := [("lot", 8)]) (g := gName 8) rfl scLots.nd (pi_list (pe_cal W3 hr (pa_cons (w_ixT K (pv 0) pe_int) (pa_cons (pv 4) pa_nil)))) (blkOk_by (by kernel_rfl))
            (fun _ _ _ _ _ => pg_one 8 scLots.nd) (fun _ _ _ _ _ => pts_one (pt_cmpR (w_nin P w hr) (pv 8) (pv 5) (by with_unfolding_all rfl))) (fun _ _ _ _ _ => pv 8)) pa_nil))))))
      (pss_one (ps_ret (w_sorted hr T.sorted (pa_cons (pv 3) pa_nil))))), ?_⟩
    intro De σ0 H0 hl0 hh0 hrt
    have lsz := h.sz.2.1
    refine (er_call (P := dA (.list ((rowsOf g).map eRow))) (ea_cons (ed_var rfl) ea_nil) ⟨g, rfl, h, rfl⟩) σ0 H0 _ hl0 hh0 fun v H1 e1 dv => ?_
    refine (ef_lst ea_nil (by decide)) σ0 H1 _ hl0 (hh0.mono e1) fun p xs H2 hp2 e2 hpl hpx => ?_
    refine ⟨v, .ref p, rfl, ?_⟩
    have hl0' : σ0.length = 9 := hl0
    have hA0 : Hold H2 [some (bA H1 (eRig g)), some (bA H1 (eN k)), some (bA H1 (.list ((rowsOf g).map eRow))), some (vA (.ref p)), none, none, none, none, none] ((σ0.set 2 (some v)).set 3 (some (.ref p))) := by
      have q0 : Hold H1 (startS ["rig", "size", "rows", "found", "knobs", "met", "row", "knob", "lot"] [eRig g, eN k]) σ0 := hh0.mono e1
      have q1 := (((q0.slot (i := 0) (P' := bA H1 (eRig g)) rfl bA_of).slot (i := 1) (P' := bA H1 (eN k)) rfl bA_of).set (j := 2) (P := bA H1 (.list ((rowsOf g).map eRow))) (v := v) (bA_of v dv) (by omega)).set (j := 3) (P := vA (.ref p)) (v := .ref p) rfl (by simp; omega)
      exact q1.mono e2
    have stab : Stb H1 [some (bA H1 (eRig g)), some (bA H1 (eN k)), some (bA H1 (.list ((rowsOf g).map eRow))), some (vA (.ref p)), none, none, none, none, none] := .d (.d (.d (.v (.no (.no (.no (.no (.no .nil))))))))
    have i0 : ∀ o1 o2 o3 o4 o5 o6 o7 o8, Ed (tOp (rIxT K) (tVar 0) (tC (.int 0))) [some (bA H1 (eRig g)), o1, o2, o3, o4, o5, o6, o7, o8] (eRow g.1) := fun _ _ _ _ _ _ _ _ => ed_ixT (d := eRow g.1) (ds := [eRow g.1, eFl g.2]) (ed_varB rfl) ed_int (by rfl)
    refine for_mut (js := [4]) (knobsBy g.1.length k) eRow (fun ks => [some (bA H1 (eRig g)), some (bA H1 (eN k)), some (bA H1 (.list ((rowsOf g).map eRow))), some (vA (.ref p)), some (dA (eRow ks)), none, none, none, none])
      (fun pre H => LstAt p ((pre.flatMap fun ks => (lotsOn g.1 ks).filter fun l => (rowsOf g).any fun r => decide (restr r ks = l)).map eLot) H) stab (fun pre H' a => let ⟨_, xs, q, _⟩ := a; ⟨_, q, fun ys z => by cases z⟩) (fun pre H' H2 e a => a.mono e)
      (srcP_new (ef_call (es := (knobsBy g.1.length k).map eRow) (ea_cons (ed_lenT (ea_cons (i0 _ _ _ _ _ _ _ _) ea_nil)) (ea_cons (ed_varB rfl) ea_nil)) ⟨g.1.length, k, by simp [eN], by omega, by omega, rfl⟩) (noLs_map fun _ _ => noL_eRow _)) (by simp [hl0']) hA0 (Same.refl _) e2 hp2 ⟨rfl, xs, hpl, hpx⟩ (fun x _ => tg_name) ?_ ?_
    · intro B2 pre ks post σ' H' D' e hB2 hpB2 hl' hh' hs' a' kk
      have hks : ks ∈ knobsBy g.1.length k := by rw [e]; simp
      obtain ⟨hkl, hkm⟩ := knobsAll_in (List.mem_filter.mp hks).1
      have rl := rowsOf_len h
      refine (nx_asg (i := 5) (P := aMem P w fun key => (rowsOf g).any fun r => decide (keyOf (eLot (restr r ks)) = key)) (er_dcn (js := [6]) (Pv := fun _ => vA (.bl true)) (rowsOf g) eRow (fun r => eLot (restr r ks)) (fun r => [some (bA H1 (eRig g)), some (bA H1 (eN k)), some (bA H1 (.list ((rowsOf g).map eRow))), some (vA (.ref p)), some (dA (eRow ks)), none, some (dA (eRow r)), none, none])
        (src_list (ed_varB rfl)) (by omega) (by decide) (fun r _ => tg_name) (fun r hrr => ed_tupOf (ea_cons (ed_is (Ef.ed (ef_lcA ks eN (fun kn => ePr (kn, r.getD kn 0)) (fun kn => [some (bA H1 (eRig g)), some (bA H1 (eN k)), some (bA H1 (.list ((rowsOf g).map eRow))), some (vA (.ref p)), some (dA (eRow ks)), none, some (dA (eRow r)), some (dA (eN kn)), none])
          (src_tup (ed_var rfl)) (szl (by omega)) (js := [7]) (by decide) (fun kn _ => tg_name) (fun kn hkn => ed_tup (ea_cons (ed_var rfl) (ea_cons (ed_ixT (d := eN (r.getD kn 0)) (ed_var rfl) (ed_var rfl) (at_row ?_)) ea_nil)) (show 2 ≤ sizeLine by decide)) (fun _ _ => rfl))) ?_) ea_nil)) (fun r _ => ed_c) (fun r _ => kd_lot _))) { D' with nx := _ } σ' H' hl' hh' fun σ2 H3 l2 e2 h2 => ?_
      · rw [(rowsOf_in hrr).1.1]
        exact hkm kn hkn
      · show PyData.list _ = PyData.list _
        rw [show restr r ks = ks.map fun kn => (kn, r.getD kn 0) from rfl, List.map_map]
        rfl
      · obtain ⟨nl, xs', hpx', dx'⟩ := a'
        obtain ⟨v3, hv3, e3⟩ := h2 3 (vA (.ref p)) rfl
        cases e3
        have el : xs'.length + ((lotsOn g.1 ks).filter fun l => (rowsOf g).any fun r => decide (restr r ks = l)).length ≤ sizeLine := by
          have q1 := dx'.length
          rw [List.length_map] at q1
          have q2 := lots_part_len h hk2 (knobsBy g.1.length k) (fun x hx => (knobsAll_in (List.mem_filter.mp hx).1).1)
          rw [e, List.flatMap_append, List.flatMap_cons, List.length_append, List.length_append] at q2
          have q3 : (pre ++ ks :: post).length ≤ 64 := by rw [← e]; exact Nat.le_trans (List.length_filter_le _ _) (knobsAll_len (by omega) (by omega))
          exact szl (by omega)
        refine do_extend (S := [some (bA H1 (eRig g)), some (bA H1 (eN k)), some (bA H1 (.list ((rowsOf g).map eRow))), some (vA (.ref p)), some (dA (eRow ks)), some (aMem P w fun key => (rowsOf g).any fun r => decide (keyOf (eLot (restr r ks)) = key)), none, none, none]) hv3 (e2 _ _ hpx') l2 h2
          (ef_is (ef_lc (js := [8]) (lotsOn g.1 ks) eLot (fun l => (rowsOf g).any fun r => decide (keyOf (eLot (restr r ks)) = keyOf (eLot l))) eLot (fun l => [some (bA H1 (eRig g)), some (bA H1 (eN k)), some (bA H1 (.list ((rowsOf g).map eRow))), some (vA (.ref p)), some (dA (eRow ks)), some (aMem P w fun key => (rowsOf g).any fun r => decide (keyOf (eLot (restr r ks)) = key)), none, none, some (dA (eLot l))])
            (src_list (er_call (P := dA (.list ((lotsOn g.1 ks).map eLot))) (ea_cons (i0 _ _ _ _ _ _ _ _) (ea_cons (ed_var rfl) ea_nil)) ⟨g.1, ks, rfl, h.sz, by omega, hkm, rfl⟩)) ?_ (by decide) (fun l _ => tg_name) (fun l _ => et_test (ed_nin (M := fun key => (rowsOf g).any fun r => decide (keyOf (eLot (restr r ks)) = key)) (ed_var rfl) (ed_var rfl) (kd_lot l))) (fun l _ _ => ed_var rfl) (fun l _ => noL_eLot l))
            (es := ((lotsOn g.1 ks).filter fun l => (rowsOf g).any fun r => decide (restr r ks = l)).map eLot) ?_) (by rw [List.length_map]; exact el) fun ys H4 e4 dys => ?_
        · exact szl (Nat.le_trans (pow3 (k := ks.length) (by omega) (Nat.le_trans (lotsOn_len (fun n hn => (h.sz.2.2 n hn).2) ks [[]]) (by simp))) (by decide))
        · congr 2
          funext l
          congr 1
          funext r
          exact decide_eq_decide.mpr ⟨fun q => keyOf_eLot q, fun q => by rw [q]⟩
        · have s4 : Same B2 (upd H4 p (.lst (xs' ++ ys))) := Same.mut ((hs'.trans e2).trans e4) hpB2
          refine kk σ2 _ (by simpa using l2) (Hold.base stab ((h2.weak (S' := [some (bA H1 (eRig g)), some (bA H1 (eN k)), some (bA H1 (.list ((rowsOf g).map eRow))), some (vA (.ref p)), none, none, none, none, none]) (.keep _ (.keep _ (.keep _ (.keep _ (.drop _ (.drop _ (.keep _ (.keep _ (.keep _ .nil))))))))))) (hB2.trans s4)) s4 ?_
          have q := LstAt.grow (ds := (pre.flatMap fun ks => (lotsOn g.1 ks).filter fun l => (rowsOf g).any fun r => decide (restr r ks = l)).map eLot) (e2 _ _ hpx') nl (dx'.mono e2) e4 (noLs_map fun l _ => noL_eLot l) dys
          rw [← List.map_append] at q
          simpa [List.flatMap_append] using q
    · intro σ' H' hl' hh' hs' a'
      have hh2 := hh'.slot (i := 3) (P' := dA (.list ((lotsRaw g k).map eLot))) rfl (fun v hv => by
        have ev : v = V.ref p := hv
        rw [ev]
        exact a'.ref)
      refine (ef_sorted eLot (lotsRaw g k) (ea_cons (ed_var rfl) ea_nil) (srt_lots fun l hl q => ?_) (fun l _ => by have := depth_lot l; omega)).ed σ' H' _ (by simpa using hl') hh2 fun v H4 e4 d4 => hrt v H4 (e1.trans (hs'.trans e4)) d4
      have := lots_each hl
      rw [q] at this
      simp at this
      omega
end Rn
end
section
set_option maxHeartbeats 4000000
namespace Rn
open PySem L2 PyProof.Rows PySem.W
variable {P : Program} {w : World} {K : PySem.W.Frag} {mg : Str → Option Value} {base : Heap}
theorem w_slL {X : Cx} {e : Expr} {lo hi : Option Expr} {te : TE} {tl th : TO} {p2 pos : Pos} (K : PySem.W.Frag) (he : PE X e te) (hl : PO X lo tl) (hu : PO X hi th) (hK : X.K = K := by rfl) : PE X (.Subscript e (.Slice lo hi none p2) pos) (tSl (rSlL K) te tl th) := by
  subst hK
  exact pe_slice sl_list he hl hu

/-! sets_of -/
def pairsOf (lots : List Lot) : List Fl := lots.zipIdx.flatMap fun p => (lots.drop (p.2 + 1)).map fun o => [p.1, o]
def setsRaw (lots : List Lot) (most : Nat) : List Fl := ([] :: lots.map fun l => [l]) ++ (if most = 2 then pairsOf lots else [])
def setsOf (lots : List Lot) (most : Nat) : List Fl := sortFls (setsRaw lots most)
theorem pairs_len (lots : List Lot) : ∀ l : List (Lot × Nat), (l.flatMap fun p => (lots.drop (p.2 + 1)).map fun o => [p.1, o]).length ≤ l.length * lots.length
  | [] => by simp
  | p :: l => by
    have ih := pairs_len lots l
    rw [List.flatMap_cons, List.length_append, List.length_map, List.length_drop, List.length_cons, Nat.succ_mul]
    omega
abbrev sSets : Stmt := top 31
theorem scSets : FnScope ["lots", "most", "many", "found", "lot", "number", "one", "other"] ["lots", "most"] (defScope sSets) := ⟨rfl, rfl, rfl, by decide +kernel, rfl, by decide +kernel, by decide +kernel⟩
def SetOk (lots : List Lot) (most : Nat) : Prop := lots.length ≤ 192 ∧ (most = 1 ∨ most = 2 ∧ lots.length ≤ 24)
def RSets : List PyData → Ab → Prop := fun ds P => ∃ (lots : List Lot) (most : Nat), ds = [.list (lots.map eLot), eN most] ∧ SetOk lots most ∧ P = dA (.list ((setsOf lots most).map eFl))
theorem ok_sets (T : Tb mg) (D : Dn K mg "sets_of" sSets ["lots", "most"]) : Cal P w K mg base 1 "sets_of" ["lots", "most"] (spA RSets) := by
  refine pure_cal D scSets (fun ds P h => ?_) fun f cdv A outer s H E hr ds Pb h => ?_
  · obtain ⟨sz, p, rfl, _⟩ := h
    rfl
  · obtain ⟨lots, most, rfl, ⟨h1, h2⟩, rfl⟩ := h
    refine ⟨_, pss_cons (ps_asg (pe_op op_add (pe_op op_add pe_int (w_len K T.len (pa_cons (pv 0) pa_nil))) (pe_ifExp (pt_cmpR op_gt (pv 1) pe_int (nomark _)) (pe_op op_fdiv (pe_op op_mul (w_len K T.len (pa_cons (pv 0) pa_nil)) (pe_op op_sub (w_len K T.len (pa_cons (pv 0) pa_nil)) pe_int)) pe_int) pe_int)) (pg_one 2 scSets.nd))
      (pss_cons (ps_if (pt_cmpR op_gt (pv 2) (pe_num T.faults) (nomark _)) pss_never pss_nil)
      (pss_cons (ps_asg (pe_lst (pa_cons (pe_tup pa_nil) (w_star K (pe_lc (own := [("lot", 4)]) (g := gName 4) (tt := tYes) rfl scSets.nd (pi_list (pv 0)) (blkOk_by (by kernel_rfl)) (fun _ _ _ _ _ => pg_one 4 scSets.nd) (fun _ _ _ _ _ => pts_nil) (fun _ _ _ _ _ => pe_tup (pa_cons (pv 4) pa_nil))) pa_nil))) (pg_one 3 scSets.nd))
      (pss_cons (ps_if (pt_cmpR op_gt (pv 1) pe_int (nomark _)) (pss_one (ps_expr (pe_bm F.plainAttrs_list F.slot_list_extend F.type_list_extend mt_extend (pv 3) (pa_cons (pe_lc2 (own := [("number", 5), ("one", 6), ("other", 7)]) (vs1 := [7]) (g := gTup K 2 (gCons (gName 5) (gCons (gName 6) gNil))) (tt := tYes) (g1 := gName 7) (tt1 := tYes) rfl scSets.nd
          (pi_enum (by rfl) T.enum (pa_cons (pv 0) pa_nil)) (blkOk_by (by kernel_rfl)) (by decide) (fun _ _ _ _ _ => pg_two 5 6 rfl scSets.nd) (fun _ _ _ _ _ => pts_nil) (fun _ _ _ _ _ => wi_list K (w_slL K (pv 0) (po_some (pe_op op_add (pv 5) pe_int)) po_none)) (fun _ _ _ _ _ => pg_one 7 scSets.nd) (fun _ _ _ _ _ => pts_nil)
          (fun _ _ _ _ _ => pe_tup (pa_cons (pv 6) (pa_cons (pv 7) pa_nil)))) pa_nil)))) pss_nil)
      (pss_one (ps_ret (w_sorted hr T.sorted (pa_cons (pv 3) pa_nil))))))), ?_⟩
    have hm : most = 1 ∨ most = 2 := by omega
    have hmul : most = 2 → lots.length * (lots.length - 1) ≤ 24 * 23 := fun q => Nat.mul_le_mul (by omega) (by omega)
    intro De σ0 H0 hl0 hh0 hrt
    obtain ⟨mm, hmm, hmb⟩ : ∃ mm : Int, mm ≤ 2000 ∧ Ed (tOp (rI0 fun i j => .int (i + j)) (tOp (rI0 fun i j => .int (i + j)) (tC (.int 1)) (tCB (rLenQ K) (tCons (tVar 0) tNil))) (tIf (tTest (tOp (rI0 fun i j => .bl (decide (j < i))) (tVar 1) (tC (.int 1))))
        (tOp (rI CDiv fun i j => .int (i / j)) (tOp (rI CMul fun i j => .int (i * j)) (tCB (rLenQ K) (tCons (tVar 0) tNil)) (tOp (rI0 fun i j => .int (i - j)) (tCB (rLenQ K) (tCons (tVar 0) tNil)) (tC (.int 1)))) (tC (.int 2))) (tC (.int 0)))) (startS ["lots", "most", "many", "found", "lot", "number", "one", "other"] [.list (lots.map eLot), eN most]) (.int mm) := by
      have el : Ed (tCB (rLenQ K) (tCons (tVar 0) tNil)) (startS ["lots", "most", "many", "found", "lot", "number", "one", "other"] [.list (lots.map eLot), eN most]) (.int (lots.length : Nat)) := ed_is (ed_lenL (ds := lots.map eLot) (ea_cons (ed_var rfl) ea_nil)) (by simp)
      rcases hm with rfl | rfl
      · exact ⟨_, by show (1 : Int) + (lots.length : Nat) + 0 ≤ 2000; omega, ed_opI (ed_opI ed_int el) (er_if (P := dA (.int 0)) (et_test (ed_opB (i := 1) (ed_var rfl) ed_int)) (fun q => by simp at q) (fun _ => ed_int))⟩
      · refine ⟨_, ?_, ed_opI (ed_opI ed_int el) (er_if (P := dA (.int ((lots.length : Nat) * ((lots.length : Nat) - 1 : Int) / 2))) (et_test (ed_opB (i := 2) (ed_var rfl) ed_int)) (fun q => ed_opC (g := fun i j => i / j) (ed_opC (g := fun i j => i * j) el (ed_opI el ed_int) (.inl ⟨by omega, by omega⟩)) ed_int ⟨by decide, by decide⟩) (fun q => by simp at q))⟩
        have := hmul rfl
        have e : ((lots.length : Nat) : Int) * ((lots.length : Nat) - 1) ≤ 24 * 24 := by
          have q1 : ((lots.length : Nat) : Int) ≤ 24 := by omega
          have q2 : ((lots.length : Nat) : Int) - 1 ≤ 24 := by omega
          rcases Nat.eq_zero_or_pos lots.length with z | z
          · rw [z]; decide
          · exact Int.mul_le_mul q1 q2 (by omega) (by decide)
        omega
    refine go_nx hl0 hh0 (nx_asg (i := 2) hmb) fun σ1 H1 l1 e1 g1 => ?_
    refine go_nx l1 g1 (nx_skip (et_is (et_test (ed_opB (ed_var rfl) ed_int)) (by simp; omega))) fun σ2 H2 l2 e2 g2 => ?_
    refine go_new l2 g2 (ef_is (ef_lst (ea_cons (d := eFl []) (ed_tup ea_nil (by decide)) (ea_starL (Ef.ed (ef_lcA (js := [4]) lots eLot (fun l => eFl [l]) (fun l => [some (dA (.list (lots.map eLot))), some (dA (eN most)), some (dA (.int mm)), none, some (dA (eLot l)), none, none, none]) (src_list (ed_var rfl)) (szl (by omega)) (by decide) (fun l _ => tg_name) (fun l _ => ed_tup (ea_cons (ed_var rfl) ea_nil) (show 1 ≤ sizeLine by decide)) (fun l _ => noL_eFl _))) ea_nil)) (szl (by simp; omega)))
      (es := ([] :: lots.map fun l => [l]).map eFl) (by simp)) fun p xs H3 hp3 e3 hpl hpx => ?_
    have l2' : σ2.length = 8 := l2
    have g3 : Hold H3 [some (dA (.list (lots.map eLot))), some (dA (eN most)), some (dA (.int mm)), some (vA (.ref p)), none, none, none, none] (σ2.set 3 (some (.ref p))) := (g2.mono e3).set (j := 3) (P := vA (.ref p)) (v := .ref p) rfl (by omega)
    have hx : (σ2.set 3 (some (V.ref p)))[3]? = some (some (.ref p)) := List.getElem?_set_self (by omega)
    have s03 : Same H0 H3 := (e1.trans e2).trans e3
    have hp0 : H0 p = none := Same.free (e1.trans e2) hp3
    have fin : ∀ H4, Same H0 H4 → LstAt p ((setsRaw lots most).map eFl) H4 → tRet (tCB rSrt (tCons (tVar 3) tNil)) De (σ2.set 3 (some (.ref p))) H4 := fun H4 s4 a4 => by
      have g4 : Hold H4 [none, none, none, some (dA (.list ((setsRaw lots most).map eFl))), none, none, none, none] (σ2.set 3 (some (.ref p))) := fun i P hi => by
        match i, hi with
        | 3, hi => cases hi; exact ⟨_, hx, a4.ref⟩
        | 0, hi => cases hi
        | 1, hi => cases hi
        | 2, hi => cases hi
        | 4, hi => cases hi
        | 5, hi => cases hi
        | 6, hi => cases hi
        | 7, hi => cases hi
        | i + 8, hi => simp at hi
      exact go_ret (by simpa using l2') g4 (ef_sorted eFl (setsRaw lots most) (ea_cons (ed_var rfl) ea_nil) ⟨AllAlike.of alike_fl, .inr ⟨_, rfl⟩⟩ (fun l _ => by have := depth_fl l; omega)).ed fun v H5 e5 d5 => hrt v H5 (s4.trans e5) d5
    have a3 : LstAt p (([] :: lots.map fun l => [l]).map eFl) H3 := ⟨noLs_map fun l _ => noL_eFl l, xs, hpl, hpx⟩
    refine go_ifs (by simpa using l2') g3 (et_test (ed_opB (i := (most : Nat)) (ed_var rfl) ed_int)) (fun hb H4 e4 => ?_) (fun hb H4 e4 => ?_)
    rotate_left
    · refine fin H4 (s03.trans e4) ?_
      have hm1 : most = 1 := by simp at hb; omega
      subst hm1
      have : setsRaw lots 1 = [] :: lots.map fun l => [l] := by unfold setsRaw; simp
      rw [this]
      exact a3.mono e4
    · have hm2 : most = 2 := by simp at hb; omega
      subst hm2
      have pl := pairs_len lots lots.zipIdx
      have pl2 : lots.zipIdx.length * lots.length ≤ 24 * 24 := by rw [List.length_zipIdx]; exact Nat.mul_le_mul (by omega) (by omega)
      refine go_extend (by simpa using l2') (g3.mono e4) hx (e4 _ _ hpl)
        (ef_is (ef_lc2 (js := [5, 6]) (js1 := [7]) lots.zipIdx (fun q => .tuple [eN q.2, eLot q.1]) (fun q => lots.drop (q.2 + 1)) eLot (fun q o => eFl [q.1, o]) (fun q => [some (dA (.list (lots.map eLot))), some (dA (eN 2)), some (dA (.int mm)), some (vA (.ref p)), none, some (dA (eN q.2)), some (dA (eLot q.1)), none])
          (fun q o => [some (dA (.list (lots.map eLot))), some (dA (eN 2)), some (dA (.int mm)), some (vA (.ref p)), none, some (dA (eN q.2)), some (dA (eLot q.1)), some (dA (eLot o))]) ?_ (by decide) (by decide) (fun q _ => ?_) (fun q _ => tg_pair) (fun q _ => ?_) (fun q _ o _ => tg_name) (fun q _ o _ => ed_tup (ea_cons (ed_var rfl) (ea_cons (ed_var rfl) ea_nil)) (show 2 ≤ sizeLine by decide)) (fun q _ o _ => noL_eFl _) ?_)
          (es := (pairsOf lots).map eFl) ?_) ?_ fun ys H5 e5 dys => ?_
      · rw [← zipIdx_map]
        exact src_enumL (ea_cons (ed_var rfl) ea_nil)
      · show (noL (eN q.2) && (noL (eLot q.1) && true)) = true
        rw [noL_eLot]
        rfl
      · have e : (lots.drop (q.2 + 1)).map eLot = cutD (lots.map eLot) (some (((q.2 + 1 : Nat)) : Int)) none := by rw [cutD_from, List.map_drop]
        rw [e]
        exact srcI_list (ef_slL (ed_var rfl) (eo_some (ed_is (ed_opI (i := (q.2 : Nat)) (ed_var rfl) ed_int) (by simp))) eo_none) (by rw [← e]; exact noLs_map fun l _ => noL_eLot l)
      · have e : (lots.zipIdx.flatMap fun q => (lots.drop (q.2 + 1)).map fun o => eFl [q.1, o]) = (pairsOf lots).map eFl := by
          unfold pairsOf
          rw [List.map_flatMap]
          simp [List.map_map, Function.comp_def]
        rw [e, List.length_map]
        exact szl (by unfold pairsOf; omega)
      · unfold pairsOf
        rw [List.map_flatMap]
        simp [List.map_map, Function.comp_def]
      · have q1 := hpx.length
        rw [List.length_map]
        exact szl (by unfold pairsOf; simp at q1; omega)
      · refine fin _ (Same.mut ((s03.trans e4).trans e5) hp0) ?_
        obtain ⟨n3, _⟩ := a3
        have q := LstAt.grow (e4 _ _ hpl) n3 (hpx.mono e4) e5 (noLs_map fun l _ => noL_eFl l) dys
        rw [← List.map_append] at q
        have : setsRaw lots 2 = ([] :: lots.map fun l => [l]) ++ pairsOf lots := by unfold setsRaw; simp
        rw [this]
        exact q
end Rn
end
section
set_option maxHeartbeats 4000000
namespace Rn
open PySem L2 PyProof.Rows PySem.W
variable {P : Program} {w : World} {K : PySem.W.Frag} {mg : Str → Option Value} {base : Heap}

/-! faults_of -/
def faultsOf (g : Rig) (s : Nat × Nat) : List Fl := setsOf (progLots g s.1) s.2
structure GameOk (g : Rig) (s : Nat × Nat) : Prop where
  rig : RigWF g
  lo : 1 ≤ s.1
  hi : s.1 ≤ g.1.length
  sets : SetOk (progLots g s.1) s.2
abbrev sFaults : Stmt := top 32
theorem scFaults : FnScope ["rig", "shape"] ["rig", "shape"] (defScope sFaults) := ⟨rfl, rfl, rfl, by decide +kernel, rfl, by decide +kernel, by decide +kernel⟩
def RFaults : List PyData → Ab → Prop := fun ds P => ∃ (g : Rig) (s : Nat × Nat), ds = [eRig g, eSh s] ∧ GameOk g s ∧ P = dA (.list ((faultsOf g s).map eFl))
theorem ok_faults (T : Tb mg) (D : Dn K mg "faults_of" sFaults ["rig", "shape"]) (W1 : Cal P w K mg base 4 "lots_of" ["rig", "size"] (spA RLots)) (W2 : Cal P w K mg base 1 "sets_of" ["lots", "most"] (spA RSets)) : Cal P w K mg base 5 "faults_of" ["rig", "shape"] (spA RFaults) := by
  refine pure_cal D scFaults (fun ds P h => ?_) fun f cdv A outer s H E hr ds Pb h => ?_
  · obtain ⟨sz, p, rfl, _⟩ := h
    rfl
  · obtain ⟨g, sh, rfl, h, rfl⟩ := h
    refine ⟨_, pss_one (ps_ret (pe_cal W2 hr (pa_cons (pe_cal W1 hr (pa_cons (pv 0) (pa_cons (w_ixT K (pv 1) pe_int) pa_nil))) (pa_cons (w_ixT K (pv 1) pe_int) pa_nil)))), ?_⟩
    have j0 : Ed (tOp (rIxT K) (tVar 1) (tC (.int 0))) [some (dA (eRig g)), some (dA (eSh sh))] (eN sh.1) := ed_ixT (d := eN sh.1) (ds := [eN sh.1, eN sh.2]) (ed_var rfl) ed_int (by rfl)
    have j1 : Ed (tOp (rIxT K) (tVar 1) (tC (.int 1))) [some (dA (eRig g)), some (dA (eSh sh))] (eN sh.2) := ed_ixT (d := eN sh.2) (ds := [eN sh.1, eN sh.2]) (ed_var rfl) ed_int (by rfl)
    exact rt_ret (er_call (ea_cons (er_call (P := dA (.list ((progLots g sh.1).map eLot))) (ea_cons (ed_var rfl) (ea_cons j0 ea_nil)) ⟨g, sh.1, rfl, h.rig, h.lo, h.hi, rfl⟩) (ea_cons j1 ea_nil)) ⟨progLots g sh.1, sh.2, rfl, h.sets, rfl⟩)

/-! what the faults are made of -/
theorem lotsRaw_on {g : Rig} {k : Nat} (hk : k ≤ 1000) {l : Lot} (h : l ∈ lotsRaw g k) : LotOn g.1.length l := by
  refine ⟨by rw [lots_each h]; exact hk, fun p hp => ?_⟩
  obtain ⟨ks, hks, hl⟩ := List.mem_flatMap.mp h
  obtain ⟨_, hq⟩ := List.mem_filter.mp hl
  obtain ⟨r, hr, hd⟩ := List.any_eq_true.mp hq
  have e : restr r ks = l := of_decide_eq_true hd
  obtain ⟨q1, q2⟩ := knobsAll_in (List.mem_filter.mp hks).1
  subst e
  obtain ⟨kn, hkn, rfl⟩ := List.mem_map.mp hp
  exact q2 kn hkn
theorem mem_pairs {lots : List Lot} {f : Fl} (h : f ∈ pairsOf lots) : f.length ≤ 1000 ∧ ∀ l ∈ f, l ∈ lots := by
  obtain ⟨q, hq, hf⟩ := List.mem_flatMap.mp h
  obtain ⟨o, ho, rfl⟩ := List.mem_map.mp hf
  obtain ⟨l, i⟩ := q
  refine ⟨by simp, fun m hm => ?_⟩
  have hi : lots[i]? = some l := List.mk_mem_zipIdx_iff_getElem?.mp hq
  simp at hm
  rcases hm with rfl | rfl
  · exact List.mem_of_getElem? hi
  · exact List.mem_of_mem_drop ho
theorem mem_sets {lots : List Lot} {most : Nat} {f : Fl} (h : f ∈ setsOf lots most) : f.length ≤ 1000 ∧ ∀ l ∈ f, l ∈ lots := by
  have h' : f ∈ setsRaw lots most := List.mem_mergeSort.mp h
  unfold setsRaw at h'
  rcases List.mem_append.mp h' with q | q
  · rcases List.mem_cons.mp q with rfl | q
    · simp
    · obtain ⟨l, hl, rfl⟩ := List.mem_map.mp q
      simpa using hl
  · split at q
    · exact mem_pairs q
    · simp at q
theorem fault_on {g : Rig} {s : Nat × Nat} (h : GameOk g s) {f : Fl} (hf : f ∈ faultsOf g s) : FlOn g.1.length f := by
  obtain ⟨h1, h2⟩ := mem_sets hf
  refine ⟨h1, fun l hl => lotsRaw_on (k := s.1) ?_ (List.mem_mergeSort.mp (h2 l hl))⟩
  have := h.hi
  have := h.rig.sz.2.1
  omega
theorem sets_len (lots : List Lot) (most : Nat) (h : SetOk lots most) : (setsOf lots most).length ≤ 1000 := by
  unfold setsOf sortFls
  rw [List.length_mergeSort]
  unfold setsRaw
  obtain ⟨h1, h2⟩ := h
  have hp := pairs_len lots lots.zipIdx
  rw [List.length_zipIdx] at hp
  have hp' : (pairsOf lots).length ≤ lots.length * lots.length := hp
  rw [List.length_append, List.length_cons, List.length_map]
  split
  · have : lots.length ≤ 24 := by omega
    have q : lots.length * lots.length ≤ 24 * 24 := Nat.mul_le_mul this this
    omega
  · simp
    omega
theorem faults_len {g : Rig} {s : Nat × Nat} (h : GameOk g s) : (faultsOf g s).length ≤ 1000 := sets_len _ _ h.sets

/-! signs_of -/
def hstep (rows : List Row) (acc : List (List Bool × Fl)) (f : Fl) : List (List Bool × Fl) := if acc.any (fun p => decide (p.1 = signOf rows f)) = true then acc else acc ++ [(signOf rows f, f)]
def headsAcc (rows : List Row) (fs : List Fl) : List (List Bool × Fl) := fs.foldl (hstep rows) []
def headsOf (rows : List Row) (fs : List Fl) : List Fl := (headsAcc rows fs).map (·.2)
theorem headsAcc_len (rows : List Row) : ∀ (fs : List Fl) (acc : List (List Bool × Fl)), (fs.foldl (hstep rows) acc).length ≤ acc.length + fs.length
  | [], acc => by simp
  | f :: fs, acc => by
    have ih := headsAcc_len rows fs (hstep rows acc f)
    have h1 : (hstep rows acc f).length ≤ acc.length + 1 := by
      unfold hstep
      split
      · omega
      · simp
    show ((fs.foldl (hstep rows) (hstep rows acc f))).length ≤ _
    rw [List.length_cons]
    omega
theorem keyOf_sign {a b : List Bool} (h : keyOf (eSign a) = keyOf (eSign b)) : a = b := by
  have h' : NestedKey.tup (keysOf (a.map PyData.bool)) = NestedKey.tup (keysOf (b.map PyData.bool)) := h
  injection h' with h'
  refine keysOf_inj (f := PyData.bool) (fun x y q => ?_) h'
  have q' : NestedKey.num (if x = true then 1 else 0) = NestedKey.num (if y = true then 1 else 0) := q
  injection q' with q'
  cases x <;> cases y <;> simp at q' <;> rfl
theorem kd_sign (b : List Bool) : Kd (eSign b) := ⟨⟨_, rfl⟩, noLs_map fun _ _ => rfl, by
  have q := depth_keys (f := PyData.bool) (n := 0) (fun a => Nat.le_refl _) b
  show NestedKey.depthAll (keysOf (b.map PyData.bool)) + 1 ≤ 8
  omega⟩
theorem valR_any (rows : List NRow) (k : NestedKey) : (valR rows k).isSome = rows.any fun r => decide (r.1 = k) := by
  induction rows with
  | nil => rfl
  | cons r rs ih =>
    rw [List.any_cons]
    by_cases e : r.1 = k
    · simp [valR, List.find?_cons, e]
    · have : valR (r :: rs) k = valR rs k := by simp [valR, List.find?_cons, e]
      rw [this, ih]; simp [e]
theorem valR_at {rows : List NRow} {k : NestedKey} {u : V} (h : valR rows k = some u) : ∃ (i : Nat) (r : NRow), rows[i]? = some r ∧ r.2.2 = u := by
  unfold valR at h
  obtain ⟨r, hr, rfl⟩ := Option.map_eq_some_iff.mp h
  obtain ⟨i, hi⟩ := List.mem_iff_getElem?.mp (List.mem_of_find?_eq_some hr)
  exact ⟨i, r, hi, rfl⟩
/-- the lists of the table stand for the heads, none of them in B -/
def HdAt (P : Program) (w : World) (p : Addr) (B : Hp) (n : Nat) (acc : List (List Bool × Fl)) (H : Hp) : Prop := ∃ rows, NTab P w H p rows ∧ rows.map (·.1) = acc.map (fun a => keyOf (eSign a.1)) ∧
  ∀ (i : Nat) (r : NRow) (a : List Bool × Fl), rows[i]? = some r → acc[i]? = some a → ∃ q x t, r.2.2 = .ref q ∧ B q = none ∧ H q = some (.lst (x :: t)) ∧ t.length < n ∧ Dq H (eFl a.2) x
theorem HdAt.mono {p : Addr} {B : Hp} {n : Nat} {acc : List (List Bool × Fl)} {H H' : Hp} (e : Same H H') (h : HdAt P w p B n acc H) : HdAt P w p B n acc H' := by
  obtain ⟨rows, h1, h2, h3⟩ := h
  refine ⟨rows, h1.mono e, h2, fun i r a hr ha => ?_⟩
  obtain ⟨q, x, t, q1, q2, q3, q4, q5⟩ := h3 i r a hr ha
  exact ⟨q, x, t, q1, q2, e _ _ q3, q4, Dq.mono e _ _ q5⟩
theorem any_keys {rows : List NRow} {acc : List (List Bool × Fl)} (h : rows.map (·.1) = acc.map (fun a => keyOf (eSign a.1))) (s : List Bool) : (rows.any fun r => decide (r.1 = keyOf (eSign s))) = acc.any fun a => decide (a.1 = s) := by
  have e1 : (rows.any fun r => decide (r.1 = keyOf (eSign s))) = (rows.map (·.1)).any fun k => decide (k = keyOf (eSign s)) := by rw [List.any_map]; rfl
  rw [e1, h, List.any_map]
  congr 1
  funext a
  exact decide_eq_decide.mpr ⟨fun q => keyOf_sign q, fun q => by show keyOf (eSign a.1) = _; rw [q]⟩
theorem szl' {n : Nat} (h : n < 1000000) : n < sizeLine := Nat.lt_of_lt_of_le h (by decide)
abbrev sSigns : Stmt := top 35
theorem scSigns : FnScope ["rows", "faults", "found", "one"] ["rows", "faults"] (defScope sSigns) := ⟨rfl, rfl, rfl, by decide +kernel, rfl, by decide +kernel, by decide +kernel⟩
def RSigns (P : Program) (w : World) : List PyData → Ab → Prop := fun ds Q => ∃ (rows : List Row) (fs : List Fl), ds = [.list (rows.map eRow), .list (fs.map eFl)] ∧ rows.length ≤ 1000 ∧ fs.length ≤ 10000 ∧ (∀ f ∈ fs, ∀ r ∈ rows, FlOn r.length f) ∧ Q = aVals P w ((headsOf rows fs).map fun f => aFst (eFl f))
theorem ok_signs (T : Tb mg) (D : Dn K mg "signs_of" sSigns ["rows", "faults"]) (W1 : Cal P w K mg base 3 "outcomes_of" ["rows", "faults"] (spA ROutcomes)) : Cal P w K mg base 4 "signs_of" ["rows", "faults"] (spA (RSigns P w)) := by
  refine pure_cal D scSigns (fun ds Q h => ?_) fun f cdv A outer s H E hr ds Pb h => ?_
  · obtain ⟨sz, p, rfl, _⟩ := h
    rfl
  · obtain ⟨rows, fs, rfl, hz, hf, hon, rfl⟩ := h
    refine ⟨_, pss_cons (ps_asg pe_dnewN (pg_one 2 scSigns.nd)) (pss_cons (ps_for PassesOwn.never rfl (pi_list (pv 1)) (pg_one 3 scSigns.nd)
        (pss_one (ps_expr (pe_bm F.plainAttrs_list F.slot_list_append F.type_list_append mt_append (w_nsetd hr (pv 2) (pa_cons (pe_cal W1 hr (pa_cons (pv 0) (pa_cons (pv 3) pa_nil))) (pa_cons (pe_lst pa_nil) pa_nil)) ⟨by rfl, by rfl, by rfl, by rfl⟩) (pa_cons (pv 3) pa_nil)))))
      (pss_one (ps_ret (pv 2)))), ?_⟩
    intro De σ0 H0 hl0 hh0 hrt p hp hps
    have hl0' : σ0.length = 4 := hl0
    have g0 : Hold (upd H0 p (pinO p eDict)) [some (bA H0 (.list (rows.map eRow))), some (bA H0 (.list (fs.map eFl))), some (vA (.ref p)), none] (σ0.set 2 (some (.ref p))) := by
      have q1 := (((hh0 : Hold H0 (startS ["rows", "faults", "found", "one"] [.list (rows.map eRow), .list (fs.map eFl)]) σ0).slot (i := 0) (P' := bA H0 (.list (rows.map eRow))) rfl bA_of).slot (i := 1) (P' := bA H0 (.list (fs.map eFl))) rfl bA_of).set (j := 2) (P := vA (.ref p)) (v := .ref p) rfl (by omega)
      exact q1.mono (Same.new hp)
    have stab : Stb H0 [some (bA H0 (.list (rows.map eRow))), some (bA H0 (.list (fs.map eFl))), some (vA (.ref p)), none] := .d (.d (.v (.no .nil)))
    refine for_mutB (js := [3]) (p := p) (B := H0) (B1 := H0) fs eFl (fun f => [some (bA H0 (.list (rows.map eRow))), some (bA H0 (.list (fs.map eFl))), some (vA (.ref p)), some (dA (eFl f))]) (fun B2 pre H => HdAt P w p B2 pre.length (headsAcc rows pre) H) stab
      (fun B2 pre H' a => let ⟨_, ⟨o, ho, _⟩, _⟩ := a; ⟨_, ho, fun ys z => by cases z⟩) (fun B2 pre H' H2 e a => a.mono e) (srcP_varL rfl hp) (by simp [hl0']) g0 (Same.refl _) (Same.new hp) hp
      (fun B2 _ => ⟨[], ntab_new hps upd_same, rfl, fun i r a hr => by simp at hr⟩) (fun x _ => tg_name) ?_ ?_
    · intro B2 pre fl post σ' H' D' e hB2 hp2 hl' hh' hs' a' kk
      have hfl : fl ∈ fs := by rw [e]; simp
      obtain ⟨rws, ht, hk, hv⟩ := a'
      obtain ⟨v2, hv2, e2v⟩ := hh' 2 (vA (.ref p)) rfl
      cases e2v
      obtain ⟨v3, hv3, dv3⟩ := hh' 3 (dA (eFl fl)) rfl
      have hlen : rws.length = (headsAcc rows pre).length := by have := congrArg List.length hk; simpa using this
      have hle : (headsAcc rows pre).length ≤ pre.length := Nat.le_trans (headsAcc_len rows pre []) (by simp)
      have hpre : pre.length < fs.length := by rw [e]; simp
      have hstp : headsAcc rows (pre ++ [fl]) = hstep rows (headsAcc rows pre) fl := by unfold headsAcc; rw [List.foldl_append]; rfl
      refine ⟨.ref p, hv2, ⟨p, rws, rfl, ht⟩, ?_⟩
      refine (er_call (P := dA (eSign (signOf rows fl))) (ea_cons (d := .list (rows.map eRow)) (ed_varB rfl) (ea_cons (d := eFl fl) (ed_var rfl) ea_nil)) ⟨rows, fl, rfl, hz, hon fl hfl, rfl⟩) σ' H' _ hl' hh' fun y H2 e2 dy => ?_
      refine (ef_lst ea_nil (by decide)) σ' H2 _ hl' (hh'.mono e2) fun q xs H3 hq e3 hql hqx => ?_
      have hxs : xs = [] := hqx
      subst hxs
      have ht3 : NTab P w H3 p rws := (ht.mono e2).mono e3
      have s23 : Same B2 H3 := (hs'.trans e2).trans e3
      have hqB : B2 q = none := Same.free (hs'.trans e2) hq
      have dv3' : Dq H3 (eFl fl) v3 := Dq.mono (e2.trans e3) _ _ dv3
      obtain ⟨b, rfl, kb⟩ := (kd_sign (signOf rows fl)).ref (Dq.mono e3 _ _ dy)
      obtain ⟨o3, ho3, _⟩ := id ht3
      refine ⟨p, b, rws, _, .ref q, rfl, rfl, ht3, kb, szl' (by omega), fun u hu => ?_, fun hn o nt => ?_⟩
      · obtain ⟨i, r, hr, rfl⟩ := valR_at hu
        have hi : i < (headsAcc rows pre).length := by rw [← hlen]; exact (List.getElem?_eq_some_iff.mp hr).1
        obtain ⟨q1, x, t, hq1, hqB1, hH1, htl, dx⟩ := hv i r _ hr (List.getElem?_eq_getElem hi)
        rw [hq1]
        have hH3 : H3 q1 = some (.lst (x :: t)) := e3 _ _ (e2 _ _ hH1)
        refine ⟨.inl ⟨rfl, _, SqL.of hH3⟩, v3, hv3, q1, x :: t, v3, rfl, rfl, hH3, szl' (by simp; omega), ?_⟩
        have tk : Tk H3 (upd H3 q1 (.lst ((x :: t) ++ [v3]))) := tk_upd hH3 (fun ys z => by cases z)
        have s4 : Same B2 (upd H3 q1 (.lst ((x :: t) ++ [v3]))) := Same.mut s23 hqB1
        have hpq : p ≠ q1 := fun z => by rw [z, hH3] at ho3; cases ho3
        refine kk σ' _ (by simpa using hl') (Hold.base stab ((hh'.mono (e2.trans e3)).weak (S' := [some (bA H0 (.list (rows.map eRow))), some (bA H0 (.list (fs.map eFl))), some (vA (.ref p)), none]) (.keep _ (.keep _ (.keep _ (.drop _ .nil))))) (hB2.trans s4)) s4 ?_
        have hany : (headsAcc rows pre).any (fun a => decide (a.1 = signOf rows fl)) = true := by
          rw [← any_keys hk, ← valR_any, hu]
          rfl
        refine ⟨rws, ht3.tk tk (fun u hu => by rw [upd_ne hpq]; exact hu), ?_, fun j r2 a hr2 ha => ?_⟩
        · rw [hstp]
          unfold hstep
          rw [if_pos hany]
          exact hk
        · rw [hstp] at ha
          unfold hstep at ha
          rw [if_pos hany] at ha
          obtain ⟨q2, x2, t2, h1, h2, h3, h4, h5⟩ := hv j r2 a hr2 ha
          have h3' : H3 q2 = some (.lst (x2 :: t2)) := e3 _ _ (e2 _ _ h3)
          have d5 : Dq (upd H3 q1 (.lst ((x :: t) ++ [v3]))) (eFl a.2) x2 := Dq.tk tk _ _ (noL_eFl _) (Dq.mono (e2.trans e3) _ _ h5)
          by_cases z : q2 = q1
          · subst z
            rw [hH3] at h3'
            cases h3'
            exact ⟨q2, x, t ++ [v3], h1, h2, upd_same, by simp; omega, d5⟩
          · exact ⟨q2, x2, t2, h1, h2, by rw [upd_ne z]; exact h3', by simp; omega, d5⟩
      · have hqp : q ≠ p := fun z => by rw [z, ho3] at hql; cases hql
        have hH3 : (upd H3 p (pinO p o)) q = some (.lst []) := by rw [upd_ne hqp]; exact hql
        refine ⟨.inl ⟨rfl, _, SqL.of hH3⟩, v3, hv3, q, [], v3, rfl, rfl, hH3, by decide, ?_⟩
        have tk1 : Tk H3 (upd H3 p (pinO p o)) := tk_upd ho3 (fun ys z => by cases z)
        have tk : Tk (upd H3 p (pinO p o)) (upd (upd H3 p (pinO p o)) q (.lst ([] ++ [v3]))) := tk_upd hH3 (fun ys z => by cases z)
        have s4 : Same B2 (upd (upd H3 p (pinO p o)) q (.lst ([] ++ [v3]))) := Same.mut (Same.mut s23 hp2) hqB
        refine kk σ' _ (by simpa using hl') (Hold.base stab ((hh'.mono (e2.trans e3)).weak (S' := [some (bA H0 (.list (rows.map eRow))), some (bA H0 (.list (fs.map eFl))), some (vA (.ref p)), none]) (.keep _ (.keep _ (.keep _ (.drop _ .nil))))) (hB2.trans s4)) s4 ?_
        have hany : ¬ (headsAcc rows pre).any (fun a => decide (a.1 = signOf rows fl)) = true := by
          rw [← any_keys hk, ← valR_any, hn]
          decide
        refine ⟨_, nt.tk tk (fun u hu => by rw [upd_ne (Ne.symm hqp)]; exact hu), ?_, fun j r2 a hr2 ha => ?_⟩
        · rw [hstp]
          unfold hstep
          rw [if_neg hany, List.map_append, List.map_append, hk]
          rfl
        · rw [hstp] at ha
          unfold hstep at ha
          rw [if_neg hany] at ha
          by_cases hj : j < rws.length
          · rw [List.getElem?_append_left hj] at hr2
            rw [List.getElem?_append_left (by omega)] at ha
            obtain ⟨q2, x2, t2, h1, h2, h3, h4, h5⟩ := hv j r2 a hr2 ha
            have h3' : H3 q2 = some (.lst (x2 :: t2)) := e3 _ _ (e2 _ _ h3)
            have hq2p : q2 ≠ p := fun z => by rw [z, ho3] at h3'; cases h3'
            have hq2q : q2 ≠ q := fun z => by rw [z, hql] at h3'; cases h3'
            exact ⟨q2, x2, t2, h1, h2, by rw [upd_ne hq2q, upd_ne hq2p]; exact h3', by simp; omega, Dq.tk tk _ _ (noL_eFl _) (Dq.tk tk1 _ _ (noL_eFl _) (Dq.mono (e2.trans e3) _ _ h5))⟩
          · have hj' : j = rws.length := by
              have := (List.getElem?_eq_some_iff.mp hr2).1
              simp at this
              omega
            subst hj'
            rw [List.getElem?_append_right (Nat.le_refl _), Nat.sub_self] at hr2
            rw [hlen, List.getElem?_append_right (Nat.le_refl _), Nat.sub_self] at ha
            cases hr2
            cases ha
            exact ⟨q, v3, [], rfl, hqB, upd_same, by simp, Dq.tk tk _ _ (noL_eFl _) (Dq.tk tk1 _ _ (noL_eFl _) dv3')⟩
    · intro B2 σ' H' hl' hh' hs' ⟨rws, ht, hk, hv⟩
      obtain ⟨v2, hv2, e2v⟩ := hh' 2 (vA (.ref p)) rfl
      cases e2v
      refine ⟨.ref p, hv2, hrt _ H' hs' ⟨p, rws, rfl, ht, ?_, fun i r Q hr hQ => ?_⟩⟩
      · have := congrArg List.length hk
        simpa [headsOf] using this
      · unfold headsOf at hQ
        rw [List.map_map, List.getElem?_map] at hQ
        cases ha : (headsAcc rows fs)[i]? with
        | none => rw [ha] at hQ; cases hQ
        | some a =>
          rw [ha] at hQ
          cases hQ
          obtain ⟨q, x, t, h1, _, h3, _, h5⟩ := hv i r a hr ha
          exact ⟨q, x, t, h1, h3, h5⟩
end Rn
end
section
set_option maxHeartbeats 4000000
namespace Rn
open PySem L2 PyProof.Rows PySem.W
variable {P : Program} {w : World} {K : PySem.W.Frag} {mg : Str → Option Value} {base : Heap}

/-! left_of -/
def LogOk (g : Rig) (log : Log) : Prop := log.length ≤ 1000 ∧ ∀ p ∈ log, p.1 ∈ rowsOf g
def leftOf (g : Rig) (s : Nat × Nat) (log : Log) : List Fl := (faultsOf g s).filter fun f => fits f log
abbrev sLeft : Stmt := top 40
theorem scLeft : FnScope ["rig", "shape", "log", "one"] ["rig", "shape", "log"] (defScope sLeft) := ⟨rfl, rfl, rfl, by decide +kernel, rfl, by decide +kernel, by decide +kernel⟩
def RLeft : List PyData → Ab → Prop := fun ds P => ∃ (g : Rig) (s : Nat × Nat) (log : Log), ds = [eRig g, eSh s, eLog log] ∧ GameOk g s ∧ LogOk g log ∧ P = dA (.list ((leftOf g s log).map eFl))
theorem ok_left (T : Tb mg) (D : Dn K mg "left_of" sLeft ["rig", "shape", "log"]) (W1 : Cal P w K mg base 5 "faults_of" ["rig", "shape"] (spA RFaults)) (W2 : Cal P w K mg base 3 "does_fit" ["faults", "log"] (spA RFit)) : Cal P w K mg base 6 "left_of" ["rig", "shape", "log"] (spA RLeft) := by
  refine pure_cal D scLeft (fun ds P h => ?_) fun f cdv A outer s H E hr ds Pb h => ?_
  · obtain ⟨g, sh, log, rfl, _⟩ := h
    rfl
  · obtain ⟨g, sh, log, rfl, h, hlog, rfl⟩ := h
    refine ⟨_, pss_one (ps_ret (pe_lc (own := [("one", 3)]) (g := gName 3) rfl scLeft.nd (pi_list (pe_cal W1 hr (pa_cons (pv 0) (pa_cons (pv 1) pa_nil)))) (blkOk_by (by kernel_rfl)) (fun _ _ _ _ _ => pg_one 3 scLeft.nd)
      (fun _ _ _ _ _ => pts_one (pt_val (pe_cal W2 hr (pa_cons (pv 3) (pa_cons (pv 2) pa_nil))))) (fun _ _ _ _ _ => pv 3))), ?_⟩
    refine rt_ret (Ef.ed (ef_lc (js := [3]) (faultsOf g sh) eFl (fun f => fits f log) eFl (fun f => [some (dA (eRig g)), some (dA (eSh sh)), some (dA (eLog log)), some (dA (eFl f))]) (src_list (er_call (P := dA (.list ((faultsOf g sh).map eFl))) (ea_cons (ed_var rfl) (ea_cons (ed_var rfl) ea_nil)) ⟨g, sh, rfl, h, rfl⟩)) (szl (by have := faults_len h; omega)) (by decide)
      (fun f _ => tg_name) (fun f hf => et_B (er_call (ea_cons (ed_var rfl) (ea_cons (ed_var rfl) ea_nil)) ⟨f, log, rfl, hlog.1, fun p hp => ?_, rfl⟩)) (fun f _ _ => ed_var rfl) (fun f _ => noL_eFl f)))
    rw [(rowsOf_in (hlog.2 p hp)).1.1]
    exact fault_on h hf

/-! heads_left -/
def headsLeft (g : Rig) (s : Nat × Nat) (log : Log) : List Fl := sortFls (headsOf (rowsOf g) (leftOf g s log))
theorem headsAcc_mem (rows : List Row) : ∀ (fs : List Fl) (acc : List (List Bool × Fl)) (a : List Bool × Fl), a ∈ fs.foldl (hstep rows) acc → a ∈ acc ∨ a.2 ∈ fs
  | [], acc, a, h => .inl h
  | f :: fs, acc, a, h => by
    rcases headsAcc_mem rows fs (hstep rows acc f) a h with q | q
    · unfold hstep at q
      split at q
      · exact .inl q
      · rcases List.mem_append.mp q with q | q
        · exact .inl q
        · rw [List.mem_singleton.mp q]; simp
    · exact .inr (by simp [q])
theorem headsAcc_first (rows : List Row) : ∀ (fs : List Fl) (acc : List (List Bool × Fl)), acc ≠ [] → ∃ t, fs.foldl (hstep rows) acc = acc ++ t
  | [], acc, _ => ⟨[], by simp⟩
  | f :: fs, acc, h => by
    have h1 : ∃ t, hstep rows acc f = acc ++ t := by
      unfold hstep
      split
      · exact ⟨[], by simp⟩
      · exact ⟨_, rfl⟩
    obtain ⟨t, ht⟩ := h1
    obtain ⟨t2, h2⟩ := headsAcc_first rows fs (hstep rows acc f) (by rw [ht]; intro z; exact h (List.append_eq_nil_iff.mp z).1)
    exact ⟨t ++ t2, by show fs.foldl (hstep rows) (hstep rows acc f) = _; rw [h2, ht, List.append_assoc]⟩
theorem heads_first (rows : List Row) (f : Fl) (fs : List Fl) : ∃ t, headsOf rows (f :: fs) = f :: t := by
  obtain ⟨t, ht⟩ := headsAcc_first rows fs [(signOf rows f, f)] (by simp)
  have e : headsAcc rows (f :: fs) = [(signOf rows f, f)] ++ t := ht
  exact ⟨t.map (·.2), by unfold headsOf; rw [e]; rfl⟩
theorem heads_sub (rows : List Row) (fs : List Fl) {f : Fl} (h : f ∈ headsOf rows fs) : f ∈ fs := by
  obtain ⟨a, ha, rfl⟩ := List.mem_map.mp h
  rcases headsAcc_mem rows fs [] a ha with q | q
  · simp at q
  · exact q
/-- sorted takes them: the empty one stands first, or none is empty -/
def Esrt (fs : List Fl) : Prop := [] ∈ fs → ∃ t, fs = [] :: t
theorem Esrt.srt {fs : List Fl} (h : Esrt fs) : Srt (fs.map eFl) := by
  refine ⟨AllAlike.of alike_fl, ?_⟩
  by_cases e : [] ∈ fs
  · obtain ⟨t, rfl⟩ := h e
    exact .inr ⟨_, rfl⟩
  · refine .inl (.inl fun d hd => ?_)
    obtain ⟨f, hf, rfl⟩ := List.mem_map.mp hd
    cases f with
    | nil => exact absurd hf e
    | cons a as => exact ⟨_, _, rfl⟩
theorem Esrt.heads {rows : List Row} {fs : List Fl} (h : Esrt fs) : Esrt (headsOf rows fs) := fun e => by
  obtain ⟨t, rfl⟩ := h (heads_sub rows fs e)
  exact heads_first rows [] t
theorem Esrt.filter {fs : List Fl} {f : Fl → Bool} (h : Esrt fs) : Esrt (fs.filter f) := fun e => by
  obtain ⟨h1, h2⟩ := List.mem_filter.mp e
  obtain ⟨t, rfl⟩ := h h1
  exact ⟨t.filter f, by rw [List.filter_cons, if_pos h2]⟩
abbrev sHeads : Stmt := top 42
theorem scHeads : FnScope ["rig", "shape", "log", "rows", "lot"] ["rig", "shape", "log"] (defScope sHeads) := ⟨rfl, rfl, rfl, by decide +kernel, rfl, by decide +kernel, by decide +kernel⟩
def RHeads : List PyData → Ab → Prop := fun ds P => ∃ (g : Rig) (s : Nat × Nat) (log : Log), ds = [eRig g, eSh s, eLog log] ∧ GameOk g s ∧ LogOk g log ∧ Esrt (faultsOf g s) ∧ P = dA (.tuple [.list ((rowsOf g).map eRow), .list ((headsLeft g s log).map eFl)])
theorem ok_heads (T : Tb mg) (D : Dn K mg "heads_left" sHeads ["rig", "shape", "log"]) (W1 : Cal P w K mg base 3 "rows_of" ["rig"] (spA RRows)) (W2 : Cal P w K mg base 6 "left_of" ["rig", "shape", "log"] (spA RLeft)) (W3 : Cal P w K mg base 4 "signs_of" ["rows", "faults"] (spA (RSigns P w))) : Cal P w K mg base 7 "heads_left" ["rig", "shape", "log"] (spA RHeads) := by
  refine pure_cal D scHeads (fun ds P h => ?_) fun f cdv A outer s H E hr ds Pb h => ?_
  · obtain ⟨g, sh, log, rfl, _⟩ := h
    rfl
  · obtain ⟨g, sh, log, rfl, h, hlog, he, rfl⟩ := h
    refine ⟨_, pss_cons (ps_asg (pe_cal W1 hr (pa_cons (pv 0) pa_nil)) (pg_one 3 scHeads.nd)) (pss_one (ps_ret (pe_tup (pa_cons (pv 3) (pa_cons (w_sorted hr T.sorted (pa_cons (pe_lc (own := [("lot", 4)]) (g := gName 4) (tt := tYes) rfl scHeads.nd
      (pi_NV (pe_nvals (pe_cal W3 hr (pa_cons (pv 3) (pa_cons (pe_cal W2 hr (pa_cons (pv 0) (pa_cons (pv 1) (pa_cons (pv 2) pa_nil)))) pa_nil))))) (blkOk_by (by kernel_rfl)) (fun _ _ _ _ _ => pg_one 4 scHeads.nd) (fun _ _ _ _ _ => pts_nil) (fun _ _ _ _ _ => w_ixL K (pv 4) pe_int)) pa_nil)) pa_nil))))), ?_⟩
    have ll : (leftOf g sh log).length ≤ 1000 := Nat.le_trans (List.length_filter_le _ _) (faults_len h)
    have hl : (headsOf (rowsOf g) (leftOf g sh log)).length ≤ 1000 := by
      have := headsAcc_len (rowsOf g) (leftOf g sh log) []
      unfold headsOf headsAcc
      rw [List.length_map]
      simp at this
      omega
    refine rt_seq (nx_asg (P := dA (.list ((rowsOf g).map eRow))) (er_call (ea_cons (ed_var rfl) ea_nil) ⟨g, rfl, h.rig, rfl⟩)) (rt_ret (ed_tup (ea_cons (d := .list ((rowsOf g).map eRow)) (ed_var rfl) (ea_cons (ef_sorted eFl (headsOf (rowsOf g) (leftOf g sh log)) (ea_cons (Ef.ed (ef_lcP ((headsOf (rowsOf g) (leftOf g sh log)).map fun f => aFst (eFl f)) ((headsOf (rowsOf g) (leftOf g sh log)).map eFl) (by simp)
      (src_vals (er_call (ea_cons (d := .list ((rowsOf g).map eRow)) (ed_var rfl) (ea_cons (d := .list ((leftOf g sh log).map eFl)) (er_call (ea_cons (ed_var rfl) (ea_cons (ed_var rfl) (ea_cons (ed_var rfl) ea_nil))) ⟨g, sh, log, rfl, h, hlog, rfl⟩) ea_nil)) ⟨rowsOf g, leftOf g sh log, rfl, by have := rowsOf_len h.rig; omega, by omega, fun f hf r hrr => ?_, rfl⟩))
      (szl (by simp; omega)) (by decide) (by exact Nat.le_of_ble_eq_true rfl) (noLs_map fun f _ => noL_eFl f) (fun i Pi d hPi hd => ?_))) ea_nil) (he.filter.heads.srt) (fun l _ => by have := depth_fl l; omega)).ed ea_nil)) (show 2 ≤ sizeLine by decide)))
    · rw [List.getElem?_map] at hPi hd
      cases e : (headsOf (rowsOf g) (leftOf g sh log))[i]? with
      | none => rw [e] at hd; cases hd
      | some f =>
        rw [e] at hPi hd
        cases hPi
        cases hd
        exact ed_fst (ed_var rfl)
    · rw [(rowsOf_in hrr).1.1]
      exact fault_on h (List.mem_filter.mp hf).1
end Rn
end
section
set_option maxHeartbeats 4000000
namespace Rn
open PySem L2 PyProof.Rows PySem.W
variable {P : Program} {w : World} {K : PySem.W.Frag} {mg : Str → Option Value} {base : Heap}
section
variable {X : Cx} {k : Nat}
theorem w_eqD (K : PySem.W.Frag) (hr : Room k X.A) (hK : X.K = K := by rfl) : OpR X (compareOp .Eq) (rEqD K) := by subst hK; exact op_eqD hr.units
theorem w_neD (K : PySem.W.Frag) (hr : Room k X.A) (hK : X.K = K := by rfl) : OpR X (compareOp .NotEq) (rNeD K) := by subst hK; exact op_neD hr.units
theorem w_catT (K : PySem.W.Frag) (hK : X.K = K := by rfl) : OpR X (binaryOp .Add) (rCatA K) := by subst hK; exact op_catA
end
theorem eqvAll_nil : ∀ ds : List PyData, PyData.eqvAll ds [] = ds.isEmpty
  | [] => rfl
  | _ :: _ => rfl
theorem canLays {α : Type} {f : α → PyData} (h : ∀ a, (f a).canLay0 = true) : ∀ l : List α, PyData.canLayAll0 (l.map f) = true
  | [] => rfl
  | a :: l => by
    show (PyData.canLay0 (f a) && PyData.canLayAll0 (l.map f)) = true
    rw [h a, canLays h l]
    rfl
theorem lay_pr (p : Nat × Nat) : (ePr p).canLay0 = true := rfl
theorem lay_lot (l : Lot) : (eLot l).canLay0 = true := canLays lay_pr l
theorem lay_fl (f : Fl) : (eFl f).canLay0 = true := canLays lay_lot f
theorem shaped_nil : SeqAt.shaped (.list []) = true := by decide
theorem shaped_list {α : Type} {f : α → PyData} (h : ∀ a, (f a).canLay0 = true) (hd : ∀ a, (f a).depth ≤ 60) (l : List α) : SeqAt.shaped (.list (l.map f)) = true := by
  unfold SeqAt.shaped
  have q := depthAll_map hd l
  rw [Bool.and_eq_true]
  exact ⟨canLays h l, decide_eq_true (by show PyData.depthAll (l.map f) + 1 ≤ 64; omega)⟩
/-- [..] == [], [..] != [] -/
theorem ed_isNil {α : Type} {S : Sto} {ta tb : TE} {f : α → PyData} {l : List α} (ha : Ed ta S (.list (l.map f))) (hb : Ed tb S (.list [])) (h : ∀ a, (f a).canLay0 = true) (hd : ∀ a, (f a).depth ≤ 60) : Ed (tOp (rEqD K) ta tb) S (.bool l.isEmpty) := by
  refine ed_is (ed_eqD ha hb (shaped_list h hd l) shaped_nil) ?_
  show PyData.bool (PyData.eqvAll (l.map f) []) = _
  rw [eqvAll_nil, List.isEmpty_map]
theorem ed_notNil {α : Type} {S : Sto} {ta tb : TE} {f : α → PyData} {l : List α} (ha : Ed ta S (.list (l.map f))) (hb : Ed tb S (.list [])) (h : ∀ a, (f a).canLay0 = true) (hd : ∀ a, (f a).depth ≤ 60) : Ed (tOp (rNeD K) ta tb) S (.bool (!l.isEmpty)) := by
  refine ed_is (ed_neD ha hb (shaped_list h hd l) shaped_nil) ?_
  show PyData.bool (!PyData.eqvAll (l.map f) []) = _
  rw [eqvAll_nil, List.isEmpty_map]
theorem filter_isEmpty {α : Type} (f : α → Bool) : ∀ l : List α, (l.filter f).isEmpty = !(l.any f)
  | [] => rfl
  | a :: l => by
    rw [List.filter_cons, List.any_cons]
    cases f a with
    | true => rfl
    | false => simpa using filter_isEmpty f l
theorem lay_eN (n : Nat) : (eN n).canLay0 = true := rfl

/-! _law_meets -/
abbrev sLMeets : Stmt := top 54
theorem scLMeets : FnScope ["row", "lot", "k", "value"] ["row", "lot"] (defScope sLMeets) := ⟨rfl, rfl, rfl, by decide +kernel, rfl, by decide +kernel, by decide +kernel⟩
theorem ok_lMeets (T : Tb mg) (D : Dn K mg "_law_meets" sLMeets ["row", "lot"]) : Cal P w K mg base 1 "_law_meets" ["row", "lot"] (spA RMeet) := by
  refine pure_cal D scLMeets (fun ds P h => ?_) fun f cdv A outer s H E hr ds Pb h => ?_
  · obtain ⟨r, l, rfl, _⟩ := h
    rfl
  · obtain ⟨r, l, rfl, hl, rfl⟩ := h
    refine ⟨_, pss_one (ps_ret (pe_cmpR (w_eqD K hr) (pe_lc (own := [("k", 2), ("value", 3)]) (g := gTup K 2 (gCons (gName 2) (gCons (gName 3) gNil))) rfl scLMeets.nd (pi_tup (pv 1)) (blkOk_by (by kernel_rfl)) (fun _ _ _ _ _ => pg_two 2 3 rfl scLMeets.nd)
      (fun _ _ _ _ _ => pts_one (pt_cmpR op_ne (w_ixT K (pv 0) (pv 2)) (pv 3) (nomark _))) (fun _ _ _ _ _ => pv 2)) (pe_lst pa_nil) (nomark _))), ?_⟩
    refine rt_ret (ed_is (ed_isNil (l := l.filter fun p => !decide (((r.getD p.1 0 : Nat) : Int) = ((p.2 : Nat) : Int))) (f := fun p => eN p.1) (Ef.ed (ef_lc (js := [2, 3]) l ePr (fun p => !decide (((r.getD p.1 0 : Nat) : Int) = ((p.2 : Nat) : Int))) (fun p => eN p.1) (fun p => [some (dA (eRow r)), some (dA (eLot l)), some (dA (eN p.1)), some (dA (eN p.2))]) (src_tup (ed_var rfl)) (szl (by have := hl.1; omega)) (by decide)
      (fun p _ => tg_pair) (fun p hp => et_test (ed_neI (ed_ixT (d := eN (r.getD p.1 0)) (ed_var rfl) (ed_var rfl) (at_row (hl.2 p hp))) (ed_var rfl))) (fun p _ _ => ed_var rfl) (fun _ _ => rfl))) (ed_lst ea_nil (by decide)) (fun _ => rfl) (fun _ => Nat.zero_le _)) ?_)
    rw [filter_isEmpty]
    unfold meets
    congr 1
    rw [List.not_any_eq_all_not]
    congr 1
    funext p
    rw [Bool.not_not]
    exact decide_eq_decide.mpr ⟨fun q => by omega, fun q => by omega⟩

/-! _law_rows -/
abbrev sLRows : Stmt := top 55
theorem scLRows : FnScope ["rig_so", "found", "size", "longer", "row", "value", "lot"] ["rig_so"] (defScope sLRows) := ⟨rfl, rfl, rfl, by decide +kernel, rfl, by decide +kernel, by decide +kernel⟩
def RLRows : List PyData → List PyData → Prop := fun ds es => ∃ g : Rig, ds = [eRig g] ∧ RigWF g ∧ es = (rowsOf g).map eRow
theorem stepRows_append (a b : List Row) (m : Nat) : stepRows (a ++ b) m = stepRows a m ++ stepRows b m := by unfold stepRows; rw [List.flatMap_append]
theorem ok_lRows (T : Tb mg) (D : Dn K mg "_law_rows" sLRows ["rig_so"]) (W : Cal P w K mg base 1 "_law_meets" ["row", "lot"] (spA RMeet)) : Cal P w K mg base 2 "_law_rows" ["rig_so"] (spF RLRows) := by
  refine new_cal D scLRows (fun ds P h => ?_) fun f cdv A outer s H E hr ds Pb h => ?_
  · obtain ⟨g, rfl, _⟩ := h
    rfl
  · obtain ⟨g, rfl, h, rfl⟩ := h
    refine ⟨_, pss_cons (ps_asg (pe_lst (pa_cons (pe_tup pa_nil) pa_nil)) (pg_one 1 scLRows.nd))
      (pss_cons (ps_for PassesOwn.never rfl (pi_tup (w_ixT K (pv 0) pe_int)) (pg_one 2 scLRows.nd) (pss_cons (ps_asg (pe_lst pa_nil) (pg_one 3 scLRows.nd))
        (pss_cons (ps_for PassesOwn.never rfl (pi_list (pv 1)) (pg_one 4 scLRows.nd) (pss_one (ps_asg (pe_op op_cat (pv 3) (pe_lc (own := [("value", 5)]) (g := gName 5) (tt := tYes) rfl scLRows.nd (pi_range1 (by rfl) T.range (pa_cons (pv 2) pa_nil)) (blkOk_by (by kernel_rfl)) (fun _ _ _ _ _ => pg_one 5 scLRows.nd) (fun _ _ _ _ _ => pts_nil)
          (fun _ _ _ _ _ => pe_op (w_catT K) (pv 4) (pe_tup (pa_cons (pv 5) pa_nil))))) (pg_one 3 scLRows.nd))))
        (pss_one (ps_asg (pv 3) (pg_one 1 scLRows.nd))))))
      (pss_one (ps_ret (pe_lc (own := [("row", 4)]) (g := gName 4) rfl scLRows.nd (pi_list (pv 1)) (blkOk_by (by kernel_rfl)) (fun _ _ _ _ _ => pg_one 4 scLRows.nd) (fun _ _ _ _ _ => pts_one (pt_cmpR (w_eqD K hr) (pe_lc (own := [("lot", 6)]) (g := gName 6) rfl scLRows.nd (wi_tup K (w_ixT K (pv 0) pe_int)) (blkOk_by (by kernel_rfl)) (fun _ _ _ _ _ => pg_one 6 scLRows.nd)
          (fun _ _ _ _ _ => pts_one (pt_val (pe_cal W hr (pa_cons (pv 4) (pa_cons (pv 6) pa_nil))))) (fun _ _ _ _ _ => pv 6)) (pe_lst pa_nil) (nomark _))) (fun _ _ _ _ _ => pv 4))))), ?_⟩
    have i0 : ∀ o1 o2 o3 o4 o5 o6, Ed (tOp (rIxT K) (tVar 0) (tC (.int 0))) [some (dA (eRig g)), o1, o2, o3, o4, o5, o6] (eRow g.1) := fun _ _ _ _ _ _ => ed_ixT (d := eRow g.1) (ds := [eRow g.1, eFl g.2]) (ed_var rfl) ed_int (by rfl)
    have i1 : ∀ o1 o2 o3 o4 o5 o6, Ed (tOp (rIxT K) (tVar 0) (tC (.int 1))) [some (dA (eRig g)), o1, o2, o3, o4, o5, o6] (eFl g.2) := fun _ _ _ _ _ _ => ed_ixT (d := eFl g.2) (ds := [eRow g.1, eFl g.2]) (ed_var rfl) ed_int (by rfl)
    have bnd : ∀ pre post : List Nat, g.1 = pre ++ post → (allRows pre).length ≤ 64 := fun pre post e => by
      have q := foldRows_len pre [[]] (fun n hn => (h.sz.2.2 n (by rw [e]; simp [hn])).2)
      have q2 : pre.length ≤ 3 := by
        have := h.sz.2.1
        rw [e] at this
        simp at this ⊢
        omega
      exact pow3 q2 (Nat.le_trans q (by simp))
    refine rf_seq (nx_asg (P := dA (.list [eRow []])) (ed_lst (ea_cons (ed_tup ea_nil (by decide)) ea_nil) (by decide))) (rf_seq (nx_for (js := [2]) g.1 eN (fun pre => [some (dA (eRig g)), some (dA (.list ((allRows pre).map eRow))), none, none, none, none, none])
      (fun pre m => [some (dA (eRig g)), some (dA (.list ((allRows pre).map eRow))), some (dA (eN m)), none, none, none, none]) (src_tup (i0 _ _ _ _ _ _)) (Wk.refl _) (fun pre x post e => tg_name) (fun pre x post e => ?_) (fun _ => rfl)) ?_)
    · have lx : x ≤ 4 := (h.sz.2.2 x (by rw [e]; simp)).2
      have e3 : stepRows (allRows pre) x = allRows (pre ++ [x]) := by unfold allRows; rw [List.foldl_append]; rfl
      have b2 := bnd (pre ++ [x]) post (by rw [e]; simp)
      refine nx_seq (nx_asg (P := dA (.list [])) (ed_lst ea_nil (by decide))) (nx_seq (nx_for (js := [4]) (allRows pre) eRow (fun pr => [some (dA (eRig g)), some (dA (.list ((allRows pre).map eRow))), some (dA (eN x)), some (dA (.list ((stepRows pr x).map eRow))), none, none, none])
        (fun pr r => [some (dA (eRig g)), some (dA (.list ((allRows pre).map eRow))), some (dA (eN x)), some (dA (.list ((stepRows pr x).map eRow))), some (dA (eRow r)), none, none]) (src_list (ed_var rfl)) (Wk.refl _) (fun pr r post e => tg_name) (fun pr r po e2 => nx_weak (nx_asg (P := dA (.list ((stepRows (pr ++ [r]) x).map eRow)))
          (ed_is (ed_catL (ds := (stepRows pr x).map eRow) (es := ((List.range x).map fun v => eRow (r ++ [v]))) (ed_var rfl) (Ef.ed (ef_lcA (js := [5]) (List.range x) (fun v => .int (v : Nat)) (fun v => eRow (r ++ [v])) (fun v => [some (dA (eRig g)), some (dA (.list ((allRows pre).map eRow))), some (dA (eN x)), some (dA (.list ((stepRows pr x).map eRow))), some (dA (eRow r)), some (dA (.int (v : Nat))), none])
            (src_range (ed_var rfl) (by omega)) (szl (by simp; omega)) (by decide) (fun v _ => tg_name) (fun v _ => ed_is (ed_catT (ds := r.map eN) (es := [eN v]) (ed_var rfl) (ed_tup (ea_cons (ed_var rfl) ea_nil) (show 1 ≤ sizeLine by decide)) ?_) ?_) (fun v _ => noL_eRow _))) ?_) ?_)) (.keep _ (.keep _ (.keep _ (.keep _ (.drop _ (.keep _ (.keep _ .nil)))))))) (fun _ => rfl)) (nx_weak (nx_asg (P := dA (.list ((stepRows (allRows pre) x).map eRow))) (ed_var rfl)) ?_))
      · have hr2 : r ∈ allRows pre := by rw [e2]; simp
        obtain ⟨q, _⟩ := allRows_in pre r hr2
        have q2 : pre.length ≤ 3 := by
          have := h.sz.2.1
          rw [e] at this
          simp at this
          omega
        refine szl ?_
        simp
        omega
      · show PyData.tuple _ = PyData.tuple _
        congr 1
        exact eRow_snoc r v
      · rw [← e3, e2, stepRows_append, List.length_append] at b2
        rw [List.length_map, List.length_map, List.length_range]
        have q : stepRows (r :: po) x = stepRows [r] x ++ stepRows po x := stepRows_append [r] po x
        have q2 : (stepRows [r] x).length = x := by rw [stepRows_len]; simp
        rw [q, List.length_append] at b2
        exact szl (by omega)
      · show PyData.list _ = PyData.list _
        congr 1
        rw [stepRows_append, List.map_append]
        congr 1
        show _ = (([r] : List Row).flatMap fun r => (List.range x).map fun v => r ++ [v]).map eRow
        simp [List.map_map, Function.comp_def]
      · rw [← e3]
        exact .keep _ (.keep _ (.drop _ (.drop _ (.keep _ (.keep _ (.keep _ .nil))))))
    · refine rf_ret (ef_lc (js := [4]) (allRows g.1) eRow (isLet g.2) eRow (fun r => [some (dA (eRig g)), some (dA (.list ((allRows g.1).map eRow))), none, none, some (dA (eRow r)), none, none]) (src_list (ed_var rfl)) (szl (by have := allRows_len h.sz; omega)) (by decide)
        (fun r _ => tg_name) (fun r hr => et_is (et_test (ed_isNil (l := g.2.filter (meets r)) (f := eLot) (Ef.ed (ef_lc (js := [6]) g.2 eLot (meets r) eLot (fun l => [some (dA (eRig g)), some (dA (.list ((allRows g.1).map eRow))), none, none, some (dA (eRow r)), none, some (dA (eLot l))]) (src_tup (i1 _ _ _ _ _ _)) (szl (by have := h.few; omega)) (by decide) (fun l _ => tg_name)
          (fun l hl => et_B (er_call (ea_cons (ed_var rfl) (ea_cons (ed_var rfl) ea_nil)) ⟨r, l, rfl, ?_, rfl⟩)) (fun l _ _ => ed_var rfl) (fun l _ => noL_eLot l))) (ed_lst ea_nil (by decide)) lay_lot (fun l => by have := depth_lot l; omega))) ?_) (fun r _ _ => ed_var rfl) (fun r _ => noL_eRow r))
      · exact (h.lot l hl).on (allRows_in _ _ hr).1
      · rw [filter_isEmpty]
        rfl
end Rn
end
section
set_option maxHeartbeats 4000000
namespace Rn
open PySem L2 PyProof.Rows PySem.W
variable {P : Program} {w : World} {K : PySem.W.Frag} {mg : Str → Option Value} {base : Heap}

/-! _law_parts -/
def partsStep (r : Row) (f : List Lot) (k : Nat) : List Lot := f ++ f.map fun l => l ++ [(k, r.getD k 0)]
def partsAll (r : Row) (n : Nat) : List Lot := (List.range n).foldl (partsStep r) [[]]
def parts (r : Row) (k : Nat) : List Lot := (partsAll r r.length).filter fun l => decide (l.length = k)
theorem partsAll_len (r : Row) : ∀ n, (partsAll r n).length = 2 ^ n
  | 0 => rfl
  | n + 1 => by
    have ih := partsAll_len r n
    have e : partsAll r (n + 1) = partsStep r (partsAll r n) n := by unfold partsAll; rw [List.range_succ, List.foldl_append]; rfl
    rw [e]
    unfold partsStep
    rw [List.length_append, List.length_map, ih, Nat.pow_succ]
    omega
theorem partsAll_each (r : Row) : ∀ n, ∀ l ∈ partsAll r n, l.length ≤ n
  | 0, l, h => by simp [partsAll] at h; simp [h]
  | n + 1, l, h => by
    have ih := partsAll_each r n
    have e : partsAll r (n + 1) = partsStep r (partsAll r n) n := by unfold partsAll; rw [List.range_succ, List.foldl_append]; rfl
    rw [e] at h
    unfold partsStep at h
    rcases List.mem_append.mp h with q | q
    · have := ih l q; omega
    · obtain ⟨m, hm, rfl⟩ := List.mem_map.mp q
      have := ih m hm
      simp
      omega
abbrev sParts : Stmt := top 56
theorem scParts : FnScope ["row", "size", "found", "k", "lot"] ["row", "size"] (defScope sParts) := ⟨rfl, rfl, rfl, by decide +kernel, rfl, by decide +kernel, by decide +kernel⟩
def RParts : List PyData → List PyData → Prop := fun ds es => ∃ (r : Row) (k : Nat), ds = [eRow r, eN k] ∧ r.length ≤ 3 ∧ es = (parts r k).map eLot
theorem ok_parts (T : Tb mg) (D : Dn K mg "_law_parts" sParts ["row", "size"]) : Cal P w K mg base 1 "_law_parts" ["row", "size"] (spF RParts) := by
  refine new_cal D scParts (fun ds P h => ?_) fun f cdv A outer s H E hr ds Pb h => ?_
  · obtain ⟨r, k, rfl, _⟩ := h
    rfl
  · obtain ⟨r, k, rfl, h, rfl⟩ := h
    refine ⟨_, pss_cons (ps_asg (pe_lst (pa_cons (pe_tup pa_nil) pa_nil)) (pg_one 2 scParts.nd))
      (pss_cons (ps_for PassesOwn.never rfl (pi_range1 (by rfl) T.range (pa_cons (w_len K T.len (pa_cons (pv 0) pa_nil)) pa_nil)) (pg_one 3 scParts.nd) (pss_one (ps_asg (pe_op op_cat (pv 2) (pe_lc (own := [("lot", 4)]) (g := gName 4) (tt := tYes) rfl scParts.nd (pi_list (pv 2)) (blkOk_by (by kernel_rfl)) (fun _ _ _ _ _ => pg_one 4 scParts.nd) (fun _ _ _ _ _ => pts_nil)
          (fun _ _ _ _ _ => pe_op (w_catT K) (pv 4) (pe_tup (pa_cons (pe_tup (pa_cons (pv 3) (pa_cons (w_ixT K (pv 0) (pv 3)) pa_nil))) pa_nil))))) (pg_one 2 scParts.nd))))
      (pss_one (ps_ret (pe_lc (own := [("lot", 4)]) (g := gName 4) rfl scParts.nd (pi_list (pv 2)) (blkOk_by (by kernel_rfl)) (fun _ _ _ _ _ => pg_one 4 scParts.nd) (fun _ _ _ _ _ => pts_one (pt_cmpR op_eq (w_len K T.len (pa_cons (pv 4) pa_nil)) (pv 1) (nomark _))) (fun _ _ _ _ _ => pv 4))))), ?_⟩
    have hstp : ∀ n, partsAll r (n + 1) = partsStep r (partsAll r n) n := fun n => by unfold partsAll; rw [List.range_succ, List.foldl_append]; rfl
    have hb : ∀ n, n ≤ 3 → (partsAll r n).length ≤ 8 := fun n hn => by
      rw [partsAll_len]
      exact Nat.le_trans (Nat.pow_le_pow_right (by omega) hn) (by decide)
    refine rf_seq (nx_asg (P := dA (.list [eLot []])) (ed_lst (ea_cons (ed_tup ea_nil (by decide)) ea_nil) (by decide))) (rf_seq (nx_is (nx_for (js := [3]) (List.range r.length) (fun i => .int (i : Nat)) (fun pre => [some (dA (eRow r)), some (dA (eN k)), some (dA (.list ((partsAll r pre.length).map eLot))), none, none])
      (fun pre m => [some (dA (eRow r)), some (dA (eN k)), some (dA (.list ((partsAll r pre.length).map eLot))), some (dA (.int (m : Nat))), none]) (src_range (ed_is (ed_lenT (ds := r.map eN) (ea_cons (ed_var rfl) ea_nil)) (by simp)) (by omega)) (Wk.refl _) (fun pre x post e => tg_name) (fun pre x post e => ?_) (fun _ => rfl)) (by rw [List.length_range])) ?_)
    · have hx : x = pre.length ∧ x < r.length := by
        have q := congrArg (fun l => l[pre.length]?) e
        simp at q
        have hl := congrArg List.length e
        simp at hl
        rw [List.getElem?_range (by omega)] at q
        simp at q
        omega
      obtain ⟨hx, hxl⟩ := hx
      refine nx_weak (nx_asg (P := dA (.list ((partsAll r (pre ++ [x]).length).map eLot))) (ed_is (ed_catL (ds := (partsAll r pre.length).map eLot) (es := (partsAll r pre.length).map fun l => eLot (l ++ [(x, r.getD x 0)])) (ed_var rfl) (Ef.ed (ef_lcA (js := [4]) (partsAll r pre.length) eLot (fun l => eLot (l ++ [(x, r.getD x 0)]))
        (fun l => [some (dA (eRow r)), some (dA (eN k)), some (dA (.list ((partsAll r pre.length).map eLot))), some (dA (.int (x : Nat))), some (dA (eLot l))]) (src_list (ed_var rfl)) (szl (by have := hb pre.length (by omega); omega)) (by decide) (fun l _ => tg_name)
        (fun l hl => ed_is (ed_catT (ds := l.map ePr) (es := [ePr (x, r.getD x 0)]) (ed_var rfl) (ed_tup (ea_cons (ed_tup (ea_cons (ed_var rfl) (ea_cons (ed_ixT (d := eN (r.getD x 0)) (ed_var rfl) (ed_var rfl) (at_row hxl)) ea_nil)) (show 2 ≤ sizeLine by decide)) ea_nil) (show 1 ≤ sizeLine by decide)) ?_) ?_) (fun l _ => noL_eLot _))) ?_) ?_)) (.keep _ (.keep _ (.keep _ (.drop _ (.keep _ .nil)))))
      · have := partsAll_each r pre.length l hl
        refine szl ?_
        simp
        omega
      · show PyData.tuple _ = PyData.tuple _
        congr 1
        exact eLot_snoc l x (r.getD x 0)
      · have := hb pre.length (by omega)
        rw [List.length_map, List.length_map]
        exact szl (by omega)
      · rw [List.length_append]
        show PyData.list _ = PyData.list ((partsAll r (pre.length + 1)).map eLot)
        rw [hstp, ← hx]
        unfold partsStep
        rw [List.map_append, List.map_map]
        rfl
    · refine rf_ret (ef_is (ef_lc (js := [4]) (partsAll r r.length) eLot (fun l => decide (((l.length : Nat) : Int) = ((k : Nat) : Int))) eLot (fun l => [some (dA (eRow r)), some (dA (eN k)), some (dA (.list ((partsAll r r.length).map eLot))), none, some (dA (eLot l))]) (src_list (ed_var rfl)) (szl (by have := hb r.length h; omega)) (by decide)
        (fun l _ => tg_name) (fun l hl => et_test (ed_eqI (ed_is (ed_lenT (ds := l.map ePr) (ea_cons (ed_var rfl) ea_nil)) (by simp)) (ed_var rfl))) (fun l _ _ => ed_var rfl) (fun l _ => noL_eLot l)) ?_)
      unfold parts
      congr 2
      funext l
      exact decide_eq_decide.mpr Int.ofNat_inj

/-! _law_fails -/
abbrev sLFails : Stmt := top 59
theorem scLFails : FnScope ["row", "some", "lot"] ["row", "some"] (defScope sLFails) := ⟨rfl, rfl, rfl, by decide +kernel, rfl, by decide +kernel, by decide +kernel⟩
theorem ok_lFails (T : Tb mg) (D : Dn K mg "_law_fails" sLFails ["row", "some"]) (W : Cal P w K mg base 1 "_law_meets" ["row", "lot"] (spA RMeet)) : Cal P w K mg base 2 "_law_fails" ["row", "some"] (spA RFail) := by
  refine pure_cal D scLFails (fun ds P h => ?_) fun f cdv A outer s H E hr ds Pb h => ?_
  · obtain ⟨r, l, rfl, _⟩ := h
    rfl
  · obtain ⟨r, fl, rfl, ⟨hz, h1⟩, rfl⟩ := h
    refine ⟨_, pss_one (ps_ret (pe_cmpR (w_neD K hr) (pe_lc (own := [("lot", 2)]) (g := gName 2) rfl scLFails.nd (pi_tup (pv 1)) (blkOk_by (by kernel_rfl)) (fun _ _ _ _ _ => pg_one 2 scLFails.nd)
      (fun _ _ _ _ _ => pts_one (pt_val (pe_cal W hr (pa_cons (pv 0) (pa_cons (pv 2) pa_nil))))) (fun _ _ _ _ _ => pv 2)) (pe_lst pa_nil) (nomark _))), ?_⟩
    refine rt_ret (ed_is (ed_notNil (l := fl.filter (meets r)) (f := eLot) (Ef.ed (ef_lc (js := [2]) fl eLot (meets r) eLot (fun l => [some (dA (eRow r)), some (dA (eFl fl)), some (dA (eLot l))]) (src_tup (ed_var rfl)) (szl (by omega)) (by decide)
      (fun l _ => tg_name) (fun l hl => et_B (er_call (ea_cons (ed_var rfl) (ea_cons (ed_var rfl) ea_nil)) ⟨r, l, rfl, h1 l hl, rfl⟩)) (fun l _ _ => ed_var rfl) (fun l _ => noL_eLot l))) (ed_lst ea_nil (by decide)) lay_lot (fun l => by have := depth_lot l; omega)) ?_)
    rw [filter_isEmpty, Bool.not_not]
    rfl

/-! _law_sign -/
abbrev sLSign : Stmt := top 60
theorem scLSign : FnScope ["rows", "some", "row"] ["rows", "some"] (defScope sLSign) := ⟨rfl, rfl, rfl, by decide +kernel, rfl, by decide +kernel, by decide +kernel⟩
theorem ok_lSign (T : Tb mg) (D : Dn K mg "_law_sign" sLSign ["rows", "some"]) (W : Cal P w K mg base 2 "_law_fails" ["row", "some"] (spA RFail)) : Cal P w K mg base 3 "_law_sign" ["rows", "some"] (spA ROutcomes) := by
  refine pure_cal D scLSign (fun ds P h => ?_) fun f cdv A outer s H E hr ds Pb h => ?_
  · obtain ⟨sz, p, rfl, _⟩ := h
    rfl
  · obtain ⟨rows, fl, rfl, hz, h1, rfl⟩ := h
    refine ⟨_, pss_one (ps_ret (w_tuple K T.tuple (pa_cons (pe_lc (own := [("row", 2)]) (g := gName 2) (tt := tYes) rfl scLSign.nd (pi_list (pv 0)) (blkOk_by (by kernel_rfl))
        (fun _ _ _ _ _ => pg_one 2 scLSign.nd) (fun _ _ _ _ _ => pts_nil) (fun _ _ _ _ _ => pe_cal W hr (pa_cons (pv 2) (pa_cons (pv 1) pa_nil)))) pa_nil))), ?_⟩
    refine rt_ret (ed_is (ed_tupOf (ea_cons (Ef.ed (ef_lcA rows eRow (fun r => .bool (fails r fl)) (fun p => [some (dA (.list (rows.map eRow))), some (dA (eFl fl)), some (dA (eRow p))]) (src_list (ed_var rfl)) (szl (by omega)) (js := [2]) (by decide)
        (fun p _ => tg_name) (fun p hp => er_call (ea_cons (ed_var rfl) (ea_cons (ed_var rfl) ea_nil)) ⟨p, fl, rfl, h1 p hp, rfl⟩) (fun _ _ => rfl))) ea_nil)) ?_)
    show PyData.tuple _ = PyData.tuple _
    rw [show signOf rows fl = rows.map fun r => fails r fl from rfl, List.map_map]
    rfl

/-! _law_fit -/
theorem new_nA {H0 : Hp} : True := trivial
/-- a list that was not there in H0 -/
def nA (H0 : Hp) (ds : List PyData) : Ab := ⟨fun v H => ∃ p xs, v = .ref p ∧ H0 p = none ∧ H p = some (.lst xs) ∧ DqAll H ds xs, fun v _ _ e ⟨p, xs, h1, h2, h3, h4⟩ => ⟨p, xs, h1, h2, e _ _ h3, h4.mono e⟩⟩
theorem er_new {S : Sto} {te : TE} {ds : List PyData} {H0 : Hp} {i : Nat} {d : PyData} (hb : S[i]? = some (some (bA H0 d))) (h : Ef te S ds) : Er te S (nA H0 ds) := fun σ H Q hl hh k => by
  obtain ⟨v, _, _, e0⟩ := hh i _ hb
  exact h σ H Q hl hh fun p xs H' hp e h1 h2 => k _ H' e ⟨p, xs, rfl, Same.free e0 hp, h1, h2⟩
theorem ed_varN {S : Sto} {H0 : Hp} {ds : List PyData} {i : Nat} (h : S[i]? = some (some (nA H0 ds))) : Ed (tVar i) S (.list ds) := fun σ H Q _ hh k =>
  let ⟨v, h1, p, xs, h2, _, h3, h4⟩ := hh i _ h
  ⟨v, h1, k v H (Same.refl H) ⟨p, xs, h2, h3, h4⟩⟩
def fitAll (every : List Fl) (log : Log) : List Fl := every.filter fun f => fits f log
abbrev sLFit : Stmt := top 61
theorem scLFit : FnScope ["every", "log_so", "found", "row", "outcome", "some"] ["every", "log_so"] (defScope sLFit) := ⟨rfl, rfl, rfl, by decide +kernel, rfl, by decide +kernel, by decide +kernel⟩
def RLFit : List PyData → List PyData → Prop := fun ds es => ∃ (every : List Fl) (log : Log), ds = [.list (every.map eFl), eLog log] ∧ every.length ≤ 10000 ∧ log.length ≤ 1000 ∧ (∀ f ∈ every, ∀ p ∈ log, FlOn p.1.length f) ∧ es = (fitAll every log).map eFl
theorem fits_snoc (f : Fl) (log : Log) (p : Row × Bool) : fits f (log ++ [p]) = (fits f log && decide (fails p.1 f = p.2)) := by
  unfold fits
  rw [List.all_append]
  simp
theorem ok_lFit (T : Tb mg) (D : Dn K mg "_law_fit" sLFit ["every", "log_so"]) (W : Cal P w K mg base 2 "_law_fails" ["row", "some"] (spA RFail)) : Cal P w K mg base 3 "_law_fit" ["every", "log_so"] (spF RLFit) := by
  refine new_cal D scLFit (fun ds P h => ?_) fun f cdv A outer s H E hr ds Pb h => ?_
  · obtain ⟨sz, p, rfl, _⟩ := h
    rfl
  · obtain ⟨every, log, rfl, hz, hz2, hon, rfl⟩ := h
    refine ⟨_, pss_cons (ps_asg (w_list K T.list (pa_cons (pv 0) pa_nil)) (pg_one 2 scLFit.nd)) (pss_cons (ps_for PassesOwn.never rfl (pi_tup (pv 1)) (pg_two 3 4 rfl scLFit.nd)
      (pss_one (ps_setLc (i := 2) (own := [("some", 5)]) (g := gName 5) rfl scLFit.nd rfl rfl rfl (pi_list (pv 2)) (blkOk_by (by kernel_rfl)) (fun _ _ _ _ _ => pg_one 5 scLFit.nd) (fun _ _ _ _ _ => pts_one (pt_cmpR op_eq (pe_cal W hr (pa_cons (pv 3) (pa_cons (pv 5) pa_nil))) (pv 4) (nomark _))) (fun _ _ _ _ _ => pv 5))))
      (pss_one (ps_ret (pv 2)))), ?_⟩
    intro De σ0 H0 hl0 hh0 hrt
    have g0 : Hold H0 [some (bA H0 (.list (every.map eFl))), some (dA (eLog log)), none, none, none, none] σ0 := (hh0 : Hold H0 (startS ["every", "log_so", "found", "row", "outcome", "some"] [.list (every.map eFl), eLog log]) σ0).slot (i := 0) (P' := bA H0 (.list (every.map eFl))) rfl bA_of
    refine go_nx (by exact hl0) g0 (nx_asg (i := 2) (P := nA H0 (every.map eFl)) (er_new (i := 0) rfl (ef_lstOf (ea_cons (ed_varB rfl) ea_nil)))) fun σ1 H1 l1 e1 g1 => ?_
    refine go_nx l1 g1 (nx_for (js := [3, 4]) log eOut (fun pre => [some (bA H0 (.list (every.map eFl))), some (dA (eLog log)), some (nA H0 ((fitAll every pre).map eFl)), none, none, none])
      (fun pre p => [some (bA H0 (.list (every.map eFl))), some (dA (eLog log)), some (nA H0 ((fitAll every pre).map eFl)), some (dA (eRow p.1)), some (dA (.bool p.2)), none]) (src_tup (ed_var rfl)) ?_ (fun pre x post e => tg_pair) (fun pre x post e => nx_weak (nx_asg (P := nA H0 ((fitAll every (pre ++ [x])).map eFl))
        (er_new (i := 0) rfl (ef_is (ef_lc (js := [5]) (fitAll every pre) eFl (fun f => decide (fails x.1 f = x.2)) eFl (fun f => [some (bA H0 (.list (every.map eFl))), some (dA (eLog log)), some (nA H0 ((fitAll every pre).map eFl)), some (dA (eRow x.1)), some (dA (.bool x.2)), some (dA (eFl f))]) (src_list (ed_varN rfl)) ?_ (by decide)
          (fun f _ => tg_name) (fun f hf => et_test (ed_eqB (er_call (ea_cons (ed_var rfl) (ea_cons (ed_var rfl) ea_nil)) ⟨x.1, f, rfl, ?_, rfl⟩) (ed_var rfl))) (fun f _ _ => ed_var rfl) (fun f _ => noL_eFl f)) ?_))) (.keep _ (.keep _ (.keep _ (.drop _ (.drop _ (.keep _ .nil))))))) (fun _ => rfl)) fun σ2 H2 l2 e2 g2 => ?_
    · have : fitAll every [] = every := by unfold fitAll fits; simp
      rw [this]
      exact Wk.refl _
    · exact szl (by have := List.length_filter_le (fun f => fits f pre) every; unfold fitAll; omega)
    · exact hon f (List.mem_filter.mp hf).1 x (by rw [e]; simp)
    · unfold fitAll
      rw [List.filter_filter]
      congr 2
      funext f
      rw [fits_snoc, Bool.and_comm]
    · obtain ⟨v, hv, p, xs, hvp, hp0, hp, hx⟩ := g2 2 _ rfl
      subst hvp
      exact ⟨_, hv, hrt p xs H2 hp0 (e1.trans e2) hp hx⟩
end Rn
end
section
set_option maxHeartbeats 4000000
namespace Rn
open PySem L2 PyProof.Rows PySem.W
variable {P : Program} {w : World} {K : PySem.W.Frag} {mg : Str → Option Value} {base : Heap}

/-! _law_lots -/
def dstep (acc : List Lot) (l : Lot) : List Lot := if acc.any (fun m => decide (m = l)) = true then acc else acc ++ [l]
def lawRaw (g : Rig) (k : Nat) : List Lot := ((rowsOf g).flatMap fun r => parts r k).foldl dstep []
def lawLots (g : Rig) (k : Nat) : List Lot := sortLots (lawRaw g k)
theorem dsteps_len : ∀ (ls acc : List Lot), (ls.foldl dstep acc).length ≤ acc.length + ls.length
  | [], acc => by simp
  | l :: ls, acc => by
    have ih := dsteps_len ls (dstep acc l)
    have h1 : (dstep acc l).length ≤ acc.length + 1 := by
      unfold dstep
      split
      · omega
      · simp
    show (ls.foldl dstep (dstep acc l)).length ≤ _
    rw [List.length_cons]
    omega
theorem dsteps_mem : ∀ (ls acc : List Lot) (l : Lot), l ∈ ls.foldl dstep acc ↔ l ∈ acc ∨ l ∈ ls
  | [], acc, l => by simp
  | m :: ls, acc, l => by
    show l ∈ ls.foldl dstep (dstep acc m) ↔ _
    rw [dsteps_mem ls (dstep acc m) l]
    have h1 : l ∈ dstep acc m ↔ l ∈ acc ∨ l = m := by
      unfold dstep
      split
      · rename_i h
        obtain ⟨x, hx, hd⟩ := List.any_eq_true.mp h
        have : x = m := of_decide_eq_true hd
        subst this
        exact ⟨fun q => .inl q, fun q => q.elim id fun q => q ▸ hx⟩
      · simp
    rw [h1, List.mem_cons]
    exact ⟨fun q => by rcases q with (q | q) | q <;> simp [q], fun q => by rcases q with q | q | q <;> simp [q]⟩
theorem dsteps_nodup : ∀ (ls acc : List Lot), acc.Nodup → (ls.foldl dstep acc).Nodup
  | [], acc, h => h
  | m :: ls, acc, h => by
    refine dsteps_nodup ls (dstep acc m) ?_
    unfold dstep
    split
    · exact h
    · rename_i q
      rw [List.nodup_append]
      refine ⟨h, by simp, fun a ha b hb e => ?_⟩
      simp at hb
      subst hb e
      exact q (List.any_eq_true.mpr ⟨a, ha, by simp⟩)
theorem parts_len {r : Row} {k : Nat} (h : r.length ≤ 3) : (parts r k).length ≤ 8 := by
  refine Nat.le_trans (List.length_filter_le _ _) ?_
  rw [partsAll_len]
  exact Nat.le_trans (Nat.pow_le_pow_right (by omega) h) (by decide)
theorem lawRaw_each {g : Rig} {k : Nat} {l : Lot} (h : l ∈ lawRaw g k) : l.length = k := by
  rcases (dsteps_mem _ _ _).mp h with q | q
  · simp at q
  · obtain ⟨r, _, hl⟩ := List.mem_flatMap.mp q
    exact of_decide_eq_true (List.mem_filter.mp hl).2
/-- the table's keys are these lots, in order -/
def KeysAt (P : Program) (w : World) (p : Addr) (acc : List Lot) (H : Hp) : Prop := ∃ rows, NTab P w H p rows ∧ rows.map (·.1) = acc.map (fun l => keyOf (eLot l)) ∧ DqAll H (acc.map eLot) (rows.map fun r => V.ref r.2.1)
theorem KeysAt.mono {p : Addr} {acc : List Lot} {H H' : Hp} (e : Same H H') (h : KeysAt P w p acc H) : KeysAt P w p acc H' := let ⟨rows, h1, h2, h3⟩ := h; ⟨rows, h1.mono e, h2, h3.mono e⟩
theorem any_lots {rows : List NRow} {acc : List Lot} (h : rows.map (·.1) = acc.map (fun l => keyOf (eLot l))) (l : Lot) : (valR rows (keyOf (eLot l))).isSome = acc.any fun m => decide (m = l) := by
  rw [valR_any]
  have e1 : (rows.any fun r => decide (r.1 = keyOf (eLot l))) = (rows.map (·.1)).any fun k => decide (k = keyOf (eLot l)) := by rw [List.any_map]; rfl
  rw [e1, h, List.any_map]
  congr 1
  funext a
  exact decide_eq_decide.mpr ⟨fun q => keyOf_eLot q, fun q => by show keyOf (eLot a) = _; rw [q]⟩
theorem KeysAt.put {p b : Addr} {acc : List Lot} {H : Hp} {rows : List NRow} {l : Lot} {o0 o : Obj} {v : V} (h1 : H p = some (pinO p o0)) (h2 : rows.map (·.1) = acc.map (fun l => keyOf (eLot l))) (h3 : DqAll H (acc.map eLot) (rows.map fun r => V.ref r.2.1)) (hb : Dq H (eLot l) (.ref b))
    (n : NTab P w (upd H p (pinO p o)) p (putR rows (keyOf (eLot l)) b v)) : KeysAt P w p (dstep acc l) (upd H p (pinO p o)) := by
  have tk : Tk H (upd H p (pinO p o)) := tk_upd h1 (fun ys z => by cases z)
  have h3' := DqAll.tk tk _ _ (noLs_map fun l _ => noL_eLot l) h3
  refine ⟨_, n, ?_, ?_⟩
  · unfold putR dstep
    rw [any_lots h2 l]
    split
    · rw [List.map_map, ← h2]
      refine List.map_congr_left fun r _ => ?_
      show (if r.1 = keyOf (eLot l) then (r.1, r.2.1, v) else r).1 = r.1
      split <;> rfl
    · rw [List.map_append, List.map_append, h2]
      rfl
  · unfold putR dstep
    rw [any_lots h2 l]
    split
    · rw [List.map_map]
      have e : ((fun r : NRow => V.ref r.2.1) ∘ fun r : NRow => if r.1 = keyOf (eLot l) then (r.1, r.2.1, v) else r) = fun r => V.ref r.2.1 := by
        funext r
        show V.ref (if r.1 = keyOf (eLot l) then (r.1, r.2.1, v) else r).2.1 = _
        split <;> rfl
      rw [e]
      exact h3'
    · rw [List.map_append, List.map_append]
      exact DqAll.append h3' (DqAll.one (Dq.tk tk _ _ (noL_eLot l) hb))
/-- sorted(d), its keys lots -/
theorem go_sortK {D : Ends} {σ : L2.St} {H : Hp} {p : Addr} {acc : List Lot} {i : Nat} (hx : σ[i]? = some (some (V.ref p))) (h : KeysAt P w p acc H) (hn : ∀ m ∈ acc, m ≠ []) (k : ∀ v H', Same H H' → Dq H' (.list ((sortLots acc).map eLot)) v → D.rt v H') :
    tRet (tCB (rNSrtK P w) (tCons (tVar i) tNil)) D σ H := by
  obtain ⟨rows, ⟨o, ho, hd, hk⟩, h2, h3⟩ := h
  refine ⟨_, hx, p, o, rows, Lot, eLot, acc, rfl, ho, hd, h3, srt_lots hn, (fun l _ => by have := depth_lot l; omega), fun q ys hq hy => k _ _ (Same.new hq) ⟨q, ys, rfl, upd_same, hy.mono (Same.new hq)⟩⟩
section
variable {X : Cx} {k : Nat} {e : Expr} {t : TA} {p pos : Pos}
theorem w_sortK (hr : Room k X.A) (hc : X.calm = true) (hm : X.mg "sorted" = none) (ha : PA X [e] t) (hg : Gl X "sorted" := by rfl) (he : starEach [e] X.env = (false, eval e X.env) :: starEach [] X.env := by rfl) :
    PE X (.Call (.Name "sorted" p) [e] [] pos) (tCB (rNSrtK X.prog X.w) t) := pe_callB (call_nsrtK (by have := hr.units; omega) hc) hg hm PyProof.Rows.boot_sorted ha (he := he)
theorem w_sortV (hr : Room k X.A) (hc : X.calm = true) (hm : X.mg "sorted" = none) (ha : PA X [e] t) (hg : Gl X "sorted" := by rfl) (he : starEach [e] X.env = (false, eval e X.env) :: starEach [] X.env := by rfl) :
    PE X (.Call (.Name "sorted" p) [e] [] pos) (tCB (rNSrtV X.prog X.w) t) := pe_callB (call_nsrtV (by have := hr.units; omega) hc) hg hm PyProof.Rows.boot_sorted ha (he := he)
end
abbrev sLLots : Stmt := top 57
theorem scLLots : FnScope ["rig_so", "size", "found", "row", "lot"] ["rig_so", "size"] (defScope sLLots) := ⟨rfl, rfl, rfl, by decide +kernel, rfl, by decide +kernel, by decide +kernel⟩
def RLLots : List PyData → Ab → Prop := fun ds Q => ∃ (g : Rig) (k : Nat), ds = [eRig g, eN k] ∧ RigWF g ∧ 1 ≤ k ∧ Q = dA (.list ((lawLots g k).map eLot))
theorem ok_lLots (T : Tb mg) (D : Dn K mg "_law_lots" sLLots ["rig_so", "size"]) (W1 : Cal P w K mg base 2 "_law_rows" ["rig_so"] (spF RLRows)) (W2 : Cal P w K mg base 1 "_law_parts" ["row", "size"] (spF RParts)) : Cal P w K mg base 3 "_law_lots" ["rig_so", "size"] (spA RLLots) := by
  refine pure_cal D scLLots (fun ds Q h => ?_) fun f cdv A outer s H E hr ds Pb h => ?_
  · obtain ⟨sz, p, rfl, _⟩ := h
    rfl
  · obtain ⟨g, k, rfl, h, hk1, rfl⟩ := h
    refine ⟨_, pss_cons (ps_asg pe_dnewN (pg_one 2 scLLots.nd)) (pss_cons (ps_for PassesOwn.never rfl (pi_list (pe_cal W1 hr (pa_cons (pv 0) pa_nil))) (pg_one 3 scLLots.nd)
        (pss_one (ps_for PassesOwn.never rfl (pi_list (pe_cal W2 hr (pa_cons (pv 3) (pa_cons (pv 1) pa_nil)))) (pg_one 4 scLLots.nd) (pss_one (w_nput hr (pv 2) (pv 4) pe_bl)))))
      (pss_one (ps_ret (w_sortK hr rfl T.sorted (pa_cons (pv 2) pa_nil))))), ?_⟩
    intro De σ0 H0 hl0 hh0 hrt p hp hps
    have hl0' : σ0.length = 5 := hl0
    have g0 : Hold (upd H0 p (pinO p eDict)) [some (bA H0 (eRig g)), some (bA H0 (eN k)), some (vA (.ref p)), none, none] (σ0.set 2 (some (.ref p))) := by
      have q1 := (((hh0 : Hold H0 (startS ["rig_so", "size", "found", "row", "lot"] [eRig g, eN k]) σ0).slot (i := 0) (P' := bA H0 (eRig g)) rfl bA_of).slot (i := 1) (P' := bA H0 (eN k)) rfl bA_of).set (j := 2) (P := vA (.ref p)) (v := .ref p) rfl (by omega)
      exact q1.mono (Same.new hp)
    have stab : Stb H0 [some (bA H0 (eRig g)), some (bA H0 (eN k)), some (vA (.ref p)), none, none] := .d (.d (.v (.no (.no .nil))))
    have total : ((rowsOf g).flatMap fun r => parts r k).length ≤ 512 := by
      have : ∀ rs : List Row, (∀ r ∈ rs, r.length ≤ 3) → (rs.flatMap fun r => parts r k).length ≤ rs.length * 8 := by
        intro rs
        induction rs with
        | nil => intro _; simp
        | cons r rs ih =>
          intro hm
          have q1 := ih fun x hx => hm x (by simp [hx])
          have q2 := parts_len (k := k) (hm r (by simp))
          rw [List.flatMap_cons, List.length_append, List.length_cons, Nat.succ_mul]
          omega
      have q := this (rowsOf g) (fun r hr => by rw [(rowsOf_in hr).1.1]; exact h.sz.2.1)
      have q2 := rowsOf_len h
      omega
    refine for_mut (js := [3]) (p := p) (B := H0) (B1 := H0) (rowsOf g) eRow (fun r => [some (bA H0 (eRig g)), some (bA H0 (eN k)), some (vA (.ref p)), some (dA (eRow r)), none]) (fun pre H => KeysAt P w p ((pre.flatMap fun r => parts r k).foldl dstep []) H) stab
      (fun pre H' a => let ⟨_, ⟨o, ho, _⟩, _⟩ := a; ⟨_, ho, fun ys z => by cases z⟩) (fun pre H' H2 e a => a.mono e) (srcP_new (ef_call (es := (rowsOf g).map eRow) (ea_cons (ed_varB rfl) ea_nil) ⟨g, rfl, h, rfl⟩) (noLs_map fun r _ => noL_eRow r)) (by simp [hl0']) g0 (Same.refl _) (Same.new hp) hp
      ⟨[], ntab_new hps upd_same, rfl, rfl⟩ (fun x _ => tg_name) ?_ ?_
    · intro B2 pre r post σ' H' D' e hB2 hp2 hl' hh' hs' a' kk
      have hr3 : r.length ≤ 3 := by rw [(rowsOf_in (show r ∈ rowsOf g by rw [e]; simp)).1.1]; exact h.sz.2.1
      obtain ⟨rw0, ⟨o0, ho0, _⟩, _⟩ := id a'
      have s0 : Same H0 (cut p H') := same_cut (hB2.trans hs') hp
      have tkc : Tk H' (cut p H') := fun a xs ha => by
        rw [cut_ne fun q => ?_]
        · exact ha
        · rw [q, ho0] at ha; cases ha
      have hh2 := hh'.slot (i := 3) (P' := bA (cut p H') (eRow r)) rfl (fun v hv => ⟨Dq.tk tkc _ _ (noL_eRow r) hv, cut_same⟩)
      refine for_mut (js := [4]) (p := p) (B := cut p H') (B1 := cut p H') (S := [some (bA H0 (eRig g)), some (bA H0 (eN k)), some (vA (.ref p)), some (bA (cut p H') (eRow r)), none]) (parts r k) eLot (fun l => [some (bA H0 (eRig g)), some (bA H0 (eN k)), some (vA (.ref p)), some (bA (cut p H') (eRow r)), some (dA (eLot l))])
        (fun pr H => KeysAt P w p ((((pre.flatMap fun r => parts r k) ++ pr)).foldl dstep []) H) (.o s0 (.o s0 (.v (.d (.no .nil))))) (fun pre H' a => let ⟨_, ⟨o, ho, _⟩, _⟩ := a; ⟨_, ho, fun ys z => by cases z⟩) (fun pre H' H2 e a => a.mono e)
        (srcP_new (ef_call (es := (parts r k).map eLot) (ea_cons (ed_varB rfl) (ea_cons (ed_varB rfl) ea_nil)) ⟨r, k, rfl, hr3, rfl⟩) (noLs_map fun l _ => noL_eLot l)) (by simpa using hl') hh2 (Same.refl _) cut_same cut_self (by simpa using a') (fun x _ => tg_name) ?_ ?_
      · intro B3 pr l po σ3 H3 D3 e3 hB3 hp3 hl3 hh3 hs3 a3 kk3
        obtain ⟨v2, hv2, e2v⟩ := hh3 2 (vA (.ref p)) rfl
        cases e2v
        obtain ⟨v4, hv4, dv4⟩ := hh3 4 (dA (eLot l)) rfl
        obtain ⟨b, rfl, kb⟩ := (kd_lot l).ref dv4
        obtain ⟨rws, ht, hk, hd⟩ := a3
        obtain ⟨o3, ho3, _⟩ := id ht
        have hlen : rws.length ≤ 512 := by
          have q1 := congrArg List.length hk
          rw [List.length_map, List.length_map] at q1
          rw [q1]
          refine Nat.le_trans (dsteps_len _ _) ?_
          rw [e, List.flatMap_append, List.flatMap_cons, e3, List.length_append, List.length_append, List.length_append] at total
          rw [List.length_nil, List.length_append]
          omega
        refine ⟨.ref p, hv2, .ref b, hv4, p, b, rws, _, rfl, rfl, ht, kb, szl' (by omega), fun o n => ?_⟩
        have s4 : Same B3 (upd H3 p (pinO p o)) := Same.mut hs3 hp3
        refine kk3 σ3 _ (by simpa using hl3) (Hold.base (B := cut p H') (.o s0 (.o s0 (.v (.d (.no .nil))))) (hh3.weak (.keep _ (.keep _ (.keep _ (.keep _ (.drop _ .nil)))))) (hB3.trans s4)) s4 ?_
        rw [← List.append_assoc, List.foldl_append]
        exact KeysAt.put ho3 hk hd dv4 n
      · intro σ3 H3 hl3 hh3 hs3 a3
        have s2 : Same B2 H3 := (same_cut hs' hp2).trans hs3
        refine kk σ3 H3 (by simpa using hl3) (hh3.weak (.keep _ (.keep _ (.keep _ (.drop _ (.keep _ .nil)))))) s2 ?_
        rw [List.flatMap_append]
        simpa using a3
    · intro σ' H' hl' hh' hs' a'
      obtain ⟨v2, hv2, e2v⟩ := hh' 2 (vA (.ref p)) rfl
      cases e2v
      exact go_sortK hv2 a' (fun m hm q => by have := lawRaw_each hm; rw [q] at this; simp at this; omega) fun v H4 e4 d4 => hrt v H4 (hs'.trans e4) d4

/-! _law_all -/
def lawAll (g : Rig) (s : Nat × Nat) : List Fl := setsOf (lawLots g s.1) s.2
theorem pairs_range (lots : List Lot) : ((List.range lots.length).flatMap fun k => (lots.drop (k + 1)).map fun o => [lots.getD k [], o]) = pairsOf lots := by
  unfold pairsOf
  have e : lots.zipIdx = (List.range lots.length).map fun k => (lots.getD k [], k) := by
    apply List.ext_getElem?
    intro i
    rw [List.getElem?_zipIdx, List.getElem?_map]
    by_cases h : i < lots.length
    · rw [List.getElem?_range h, List.getElem?_eq_getElem h]
      simp [List.getElem?_eq_getElem h]
    · rw [List.getElem?_eq_none (by omega), List.getElem?_eq_none (by simp; omega)]
      rfl
  rw [e, List.flatMap_map]
abbrev sLAll : Stmt := top 58
theorem scLAll : FnScope ["rig_so", "shape_so", "lots", "found", "k", "lot", "far"] ["rig_so", "shape_so"] (defScope sLAll) := ⟨rfl, rfl, rfl, by decide +kernel, rfl, by decide +kernel, by decide +kernel⟩
structure LawOk (g : Rig) (s : Nat × Nat) : Prop where
  rig : RigWF g
  lo : 1 ≤ s.1
  hi : s.1 ≤ g.1.length
  sets : SetOk (lawLots g s.1) s.2
def RLAll : List PyData → Ab → Prop := fun ds Q => ∃ (g : Rig) (s : Nat × Nat), ds = [eRig g, eSh s] ∧ LawOk g s ∧ Q = dA (.list ((lawAll g s).map eFl))
theorem ok_lAll (T : Tb mg) (D : Dn K mg "_law_all" sLAll ["rig_so", "shape_so"]) (W : Cal P w K mg base 3 "_law_lots" ["rig_so", "size"] (spA RLLots)) : Cal P w K mg base 4 "_law_all" ["rig_so", "shape_so"] (spA RLAll) := by
  refine pure_cal D scLAll (fun ds Q h => ?_) fun f cdv A outer s H E hr ds Pb h => ?_
  · obtain ⟨sz, p, rfl, _⟩ := h
    rfl
  · obtain ⟨g, sh, rfl, h, rfl⟩ := h
    refine ⟨_, pss_cons (ps_asg (pe_cal W hr (pa_cons (pv 0) (pa_cons (w_ixT K (pv 1) pe_int) pa_nil))) (pg_one 2 scLAll.nd))
      (pss_cons (ps_asg (pe_op op_cat (pe_lst (pa_cons (pe_tup pa_nil) pa_nil)) (pe_lc (own := [("lot", 5)]) (g := gName 5) (tt := tYes) rfl scLAll.nd (pi_list (pv 2)) (blkOk_by (by kernel_rfl)) (fun _ _ _ _ _ => pg_one 5 scLAll.nd) (fun _ _ _ _ _ => pts_nil) (fun _ _ _ _ _ => pe_tup (pa_cons (pv 5) pa_nil)))) (pg_one 3 scLAll.nd))
      (pss_cons (ps_if (pt_cmpR op_eq (w_ixT K (pv 1) pe_int) pe_int (nomark _)) (pss_one (ps_for PassesOwn.never rfl (pi_range1 (by rfl) T.range (pa_cons (w_len K T.len (pa_cons (pv 2) pa_nil)) pa_nil)) (pg_one 4 scLAll.nd)
          (pss_one (ps_asg (pe_op op_cat (pv 3) (pe_lc (own := [("far", 6)]) (g := gName 6) (tt := tYes) rfl scLAll.nd (pi_list (w_slL K (pv 2) (po_some (pe_op op_add (pv 4) pe_int)) po_none)) (blkOk_by (by kernel_rfl)) (fun _ _ _ _ _ => pg_one 6 scLAll.nd) (fun _ _ _ _ _ => pts_nil)
            (fun _ _ _ _ _ => pe_tup (pa_cons (w_ixL K (pv 2) (pv 4)) (pa_cons (pv 6) pa_nil))))) (pg_one 3 scLAll.nd))))) pss_nil)
      (pss_one (ps_ret (w_sorted hr T.sorted (pa_cons (pv 3) pa_nil)))))), ?_⟩
    obtain ⟨hR, hlo, hhi, hS1, hS2⟩ := h
    generalize hL : lawLots g sh.1 = lots at hS1 hS2
    have eA : lawAll g sh = setsOf lots sh.2 := by unfold lawAll; rw [hL]
    rw [eA]
    have j0 : Ed (tOp (rIxT K) (tVar 1) (tC (.int 0))) [some (dA (eRig g)), some (dA (eSh sh)), none, none, none, none, none] (eN sh.1) := ed_ixT (d := eN sh.1) (ds := [eN sh.1, eN sh.2]) (ed_var rfl) ed_int (by rfl)
    have j1 : ∀ o0 o1 o2 o3 o4 o5, Ed (tOp (rIxT K) (tVar 1) (tC (.int 1))) [o0, some (dA (eSh sh)), o1, o2, o3, o4, o5] (eN sh.2) := fun _ _ _ _ _ _ => ed_ixT (d := eN sh.2) (ds := [eN sh.1, eN sh.2]) (ed_var rfl) ed_int (by rfl)
    have pl := pairs_len lots lots.zipIdx
    rw [List.length_zipIdx] at pl
    have pl' : (pairsOf lots).length ≤ lots.length * lots.length := pl
    refine rt_seq (nx_asg (P := dA (.list (lots.map eLot))) (er_call (ea_cons (ed_var rfl) (ea_cons j0 ea_nil)) ⟨g, sh.1, rfl, hR, hlo, by rw [hL]⟩))
      (rt_seq (nx_asg (P := dA (.list (([] :: lots.map fun l => [l]).map eFl))) (ed_is (ed_catL (ds := [eFl []]) (es := lots.map fun l => eFl [l]) (ed_lst (ea_cons (ed_tup ea_nil (by decide)) ea_nil) (by decide)) (Ef.ed (ef_lcA (js := [5]) lots eLot (fun l => eFl [l]) (fun l => [some (dA (eRig g)), some (dA (eSh sh)), some (dA (.list (lots.map eLot))), none, none, some (dA (eLot l)), none])
        (src_list (ed_var rfl)) (szl (by omega)) (by decide) (fun l _ => tg_name) (fun l _ => ed_tup (ea_cons (ed_var rfl) ea_nil) (show 1 ≤ sizeLine by decide)) (fun l _ => noL_eFl _))) (szl (by simp; omega))) (by simp)))
      (rt_seq (nx_if (S' := [some (dA (eRig g)), some (dA (eSh sh)), some (dA (.list (lots.map eLot))), some (dA (.list ((setsRaw lots sh.2).map eFl))), none, none, none]) (et_test (ed_eqI (j1 _ _ _ _ _ _) ed_int)) (fun hb => ?_) (fun hb => nx_is nx_next ?_))
        (rt_ret (ef_sorted eFl (setsRaw lots sh.2) (ea_cons (ed_var rfl) ea_nil) ⟨AllAlike.of alike_fl, .inr ⟨_, rfl⟩⟩ (fun l _ => by have := depth_fl l; omega)).ed)))
    · have h2 : sh.2 = 2 := by simp at hb; omega
      have hl24 : lots.length ≤ 24 := by omega
      have hm : lots.length * lots.length ≤ 24 * 24 := Nat.mul_le_mul hl24 hl24
      have eR : setsRaw lots sh.2 = ([] :: lots.map fun l => [l]) ++ ((List.range lots.length).flatMap fun k => (lots.drop (k + 1)).map fun o => [lots.getD k [], o]) := by
        unfold setsRaw
        rw [if_pos h2, pairs_range]
      rw [eR]
      refine nx_is (nx_weak (nx_for (js := [4]) (List.range lots.length) (fun i => .int (i : Nat)) (fun pre => [some (dA (eRig g)), some (dA (eSh sh)), some (dA (.list (lots.map eLot))), some (dA (.list ((([] :: lots.map fun l => [l]) ++ (pre.flatMap fun k => (lots.drop (k + 1)).map fun o => [lots.getD k [], o])).map eFl))), none, none, none])
        (fun pre k => [some (dA (eRig g)), some (dA (eSh sh)), some (dA (.list (lots.map eLot))), some (dA (.list ((([] :: lots.map fun l => [l]) ++ (pre.flatMap fun k => (lots.drop (k + 1)).map fun o => [lots.getD k [], o])).map eFl))), some (dA (.int (k : Nat))), none, none])
        (src_range (ed_is (ed_lenL (ds := lots.map eLot) (ea_cons (ed_var rfl) ea_nil)) (by simp)) (by omega)) ?_ (fun pre x post e => tg_name) (fun pre x post e => ?_) (fun _ => rfl)) (Wk.refl _)) rfl
      · simp only [List.flatMap_nil, List.append_nil]
        exact Wk.refl _
      · have hx : x < lots.length := by
          have : x ∈ List.range lots.length := by rw [e]; simp
          simpa using this
        refine nx_weak (nx_asg (P := dA (.list ((([] :: lots.map fun l => [l]) ++ ((pre ++ [x]).flatMap fun k => (lots.drop (k + 1)).map fun o => [lots.getD k [], o])).map eFl))) (ed_is (ed_catL (ds := (([] :: lots.map fun l => [l]) ++ (pre.flatMap fun k => (lots.drop (k + 1)).map fun o => [lots.getD k [], o])).map eFl) (es := (lots.drop (x + 1)).map fun o => eFl [lots.getD x [], o]) (ed_var rfl)
          (Ef.ed (ef_lcA (js := [6]) (lots.drop (x + 1)) eLot (fun o => eFl [lots.getD x [], o]) (fun o => [some (dA (eRig g)), some (dA (eSh sh)), some (dA (.list (lots.map eLot))), some (dA (.list ((([] :: lots.map fun l => [l]) ++ (pre.flatMap fun k => (lots.drop (k + 1)).map fun o => [lots.getD k [], o])).map eFl))), some (dA (.int (x : Nat))), none, some (dA (eLot o))])
            ?_ (szl (by rw [List.length_drop]; omega)) (by decide) (fun o _ => tg_name) (fun o _ => ed_tup (ea_cons (ed_ixL (d := eLot (lots.getD x [])) (ds := lots.map eLot) (ed_var rfl) (ed_var rfl) ?_) (ea_cons (ed_var rfl) ea_nil)) (show 2 ≤ sizeLine by decide)) (fun o _ => noL_eFl _))) ?_) ?_)) (.keep _ (.keep _ (.keep _ (.keep _ (.drop _ (.keep _ (.keep _ .nil)))))))
        · have e2 : (lots.drop (x + 1)).map eLot = cutD (lots.map eLot) (some (((x + 1 : Nat)) : Int)) none := by rw [cutD_from, List.map_drop]
          rw [e2]
          exact src_list (Ef.ed (ef_slL (ed_var rfl) (eo_some (ed_is (ed_opI (i := (x : Nat)) (ed_var rfl) ed_int) (by simp))) eo_none))
        · refine atI_nat ?_
          rw [List.getElem?_map, List.getD_eq_getElem?_getD, List.getElem?_eq_getElem hx]
          rfl
        · have q : ((pre ++ x :: post).flatMap fun k => (lots.drop (k + 1)).map fun o => [lots.getD k [], o]).length ≤ 24 * 24 := by
            rw [← e, pairs_range]
            omega
          rw [List.flatMap_append, List.flatMap_cons, List.length_append, List.length_append, List.length_map] at q
          rw [List.length_map, List.length_map, List.length_append, List.length_cons, List.length_map]
          exact szl (by omega)
        · rw [List.flatMap_append]
          show PyData.list _ = PyData.list _
          congr 1
          simp [List.map_map, Function.comp_def]
    · have h1 : ¬ sh.2 = 2 := by
        intro q
        rw [q] at hb
        simp at hb
      unfold setsRaw
      rw [if_neg h1, List.append_nil]
      rfl

/-! _law_heads -/
abbrev sLHeads : Stmt := top 62
theorem scLHeads : FnScope ["rows", "every", "log_so", "known", "some", "sign"] ["rows", "every", "log_so"] (defScope sLHeads) := ⟨rfl, rfl, rfl, by decide +kernel, rfl, by decide +kernel, by decide +kernel⟩
def lawHeads (rows : List Row) (every : List Fl) (log : Log) : List Fl := sortFls (headsOf rows (fitAll every log))
def RLHeads : List PyData → Ab → Prop := fun ds Q => ∃ (rows : List Row) (every : List Fl) (log : Log), ds = [.list (rows.map eRow), .list (every.map eFl), eLog log] ∧ rows.length ≤ 1000 ∧ every.length ≤ 10000 ∧ log.length ≤ 1000 ∧ (∀ f ∈ every, ∀ p ∈ log, FlOn p.1.length f) ∧ (∀ f ∈ every, ∀ r ∈ rows, FlOn r.length f) ∧ Esrt every ∧
  Q = dA (.list ((lawHeads rows every log).map eFl))
/-- the table's values are the heads -/
def HvAt (P : Program) (w : World) (p : Addr) (acc : List (List Bool × Fl)) (H : Hp) : Prop := ∃ rows, NTab P w H p rows ∧ rows.map (·.1) = acc.map (fun a => keyOf (eSign a.1)) ∧ DqAll H (acc.map fun a => eFl a.2) (rows.map (·.2.2))
theorem HvAt.mono {p : Addr} {acc : List (List Bool × Fl)} {H H' : Hp} (e : Same H H') (h : HvAt P w p acc H) : HvAt P w p acc H' := let ⟨rows, h1, h2, h3⟩ := h; ⟨rows, h1.mono e, h2, h3.mono e⟩
theorem ok_lHeads (T : Tb mg) (D : Dn K mg "_law_heads" sLHeads ["rows", "every", "log_so"]) (W1 : Cal P w K mg base 3 "_law_fit" ["every", "log_so"] (spF RLFit)) (W2 : Cal P w K mg base 3 "_law_sign" ["rows", "some"] (spA ROutcomes)) : Cal P w K mg base 4 "_law_heads" ["rows", "every", "log_so"] (spA RLHeads) := by
  refine pure_cal D scLHeads (fun ds Q h => ?_) fun f cdv A outer s H E hr ds Pb h => ?_
  · obtain ⟨a, b, c, rfl, _⟩ := h
    rfl
  · obtain ⟨rows, every, log, rfl, hz1, hz2, hz3, hon1, hon2, hE, rfl⟩ := h
    refine ⟨_, pss_cons (ps_asg pe_dnewN (pg_one 3 scLHeads.nd)) (pss_cons (ps_for PassesOwn.never rfl (pi_list (pe_cal W1 hr (pa_cons (pv 1) (pa_cons (pv 2) pa_nil)))) (pg_one 4 scLHeads.nd)
        (pss_cons (ps_asg (pe_cal W2 hr (pa_cons (pv 0) (pa_cons (pv 4) pa_nil))) (pg_one 5 scLHeads.nd)) (pss_one (ps_if (pt_cmpR (w_nnotin P w hr) (pv 5) (pv 3) (by with_unfolding_all rfl)) (pss_one (w_nput hr (pv 3) (pv 5) (pv 4))) pss_nil))))
      (pss_one (ps_ret (w_sortV hr rfl T.sorted (pa_cons (pe_nvals (pv 3)) pa_nil))))), ?_⟩
    have lfit : (fitAll every log).length ≤ 10000 := Nat.le_trans (List.length_filter_le _ _) hz2
    intro De σ0 H0 hl0 hh0 hrt p hp hps
    have hl0' : σ0.length = 6 := hl0
    have g0 : Hold (upd H0 p (pinO p eDict)) [some (bA H0 (.list (rows.map eRow))), some (bA H0 (.list (every.map eFl))), some (bA H0 (eLog log)), some (vA (.ref p)), none, none] (σ0.set 3 (some (.ref p))) := by
      have q1 := ((((hh0 : Hold H0 (startS ["rows", "every", "log_so", "known", "some", "sign"] [.list (rows.map eRow), .list (every.map eFl), eLog log]) σ0).slot (i := 0) (P' := bA H0 (.list (rows.map eRow))) rfl bA_of).slot (i := 1) (P' := bA H0 (.list (every.map eFl))) rfl bA_of).slot (i := 2) (P' := bA H0 (eLog log)) rfl bA_of).set (j := 3) (P := vA (.ref p)) (v := .ref p) rfl (by omega)
      exact q1.mono (Same.new hp)
    have stab : Stb H0 [some (bA H0 (.list (rows.map eRow))), some (bA H0 (.list (every.map eFl))), some (bA H0 (eLog log)), some (vA (.ref p)), none, none] := .d (.d (.d (.v (.no (.no .nil)))))
    refine for_mut (js := [4]) (p := p) (B := H0) (B1 := H0) (fitAll every log) eFl (fun f => [some (bA H0 (.list (rows.map eRow))), some (bA H0 (.list (every.map eFl))), some (bA H0 (eLog log)), some (vA (.ref p)), some (dA (eFl f)), none]) (fun pre H => HvAt P w p (headsAcc rows pre) H) stab
      (fun pre H' a => let ⟨_, ⟨o, ho, _⟩, _⟩ := a; ⟨_, ho, fun ys z => by cases z⟩) (fun pre H' H2 e a => a.mono e) (srcP_new (ef_call (es := (fitAll every log).map eFl) (ea_cons (ed_varB rfl) (ea_cons (ed_varB rfl) ea_nil)) ⟨every, log, rfl, hz2, hz3, hon1, rfl⟩) (noLs_map fun r _ => noL_eFl r)) (by simp [hl0']) g0 (Same.refl _) (Same.new hp) hp
      ⟨[], ntab_new hps upd_same, rfl, rfl⟩ (fun x _ => tg_name) ?_ ?_
    · intro B2 pre fl post σ' H' D' e hB2 hp2 hl' hh' hs' a' kk
      have hfl : fl ∈ every := (List.mem_filter.mp (show fl ∈ fitAll every log by rw [e]; simp)).1
      have hstp : headsAcc rows (pre ++ [fl]) = hstep rows (headsAcc rows pre) fl := by unfold headsAcc; rw [List.foldl_append]; rfl
      refine go_nx hl' hh' (nx_asg (i := 5) (P := dA (eSign (signOf rows fl))) (er_call (ea_cons (d := .list (rows.map eRow)) (ed_varB rfl) (ea_cons (d := eFl fl) (ed_var rfl) ea_nil)) ⟨rows, fl, rfl, hz1, hon2 fl hfl, rfl⟩)) fun σ2 H2 l2 e2 h2 => ?_
      obtain ⟨v3, hv3, e3v⟩ := h2 3 (vA (.ref p)) rfl
      cases e3v
      obtain ⟨v4, hv4, dv4⟩ := h2 4 (dA (eFl fl)) rfl
      obtain ⟨v5, hv5, dv5⟩ := h2 5 (dA (eSign (signOf rows fl))) rfl
      obtain ⟨b, rfl, kb⟩ := (kd_sign _).ref dv5
      obtain ⟨rws, ht, hk, hd⟩ := a'.mono e2
      obtain ⟨o3, ho3, _⟩ := id ht
      have hany : (valR rws (keyOf (eSign (signOf rows fl)))).isSome = (headsAcc rows pre).any fun a => decide (a.1 = signOf rows fl) := by rw [valR_any]; exact any_keys hk _
      have hend : ∀ H3, Same B2 H3 → HvAt P w p (headsAcc rows (pre ++ [fl])) H3 → D'.nx σ2 H3 := fun H3 s3 a3 => kk σ2 H3 (by simpa using l2) (Hold.base stab (h2.weak (.keep _ (.keep _ (.keep _ (.keep _ (.drop _ (.drop _ .nil))))))) (hB2.trans s3)) s3 a3
      refine ⟨_, hv5, _, hv3, b, p, rws, _, rfl, rfl, ht, kb, _, rfl, ?_⟩
      cases hq : (valR rws (keyOf (eSign (signOf rows fl)))).isSome with
      | true =>
        refine iteF (hend H2 (hs'.trans e2) ⟨rws, ht, ?_, ?_⟩)
        · rw [hstp]; unfold hstep; rw [← hany, hq]; exact hk
        · rw [hstp]; unfold hstep; rw [← hany, hq]; exact hd
      | false =>
        refine iteT ⟨v4, hv4, _, hv3, _, hv5, p, b, rws, _, rfl, rfl, ht, kb, ?_, fun o n => ?_⟩
        · have q1 := congrArg List.length hk
          rw [List.length_map, List.length_map] at q1
          have q2 := headsAcc_len rows pre []
          have q3 : pre.length ≤ 10000 := by
            rw [e] at lfit
            simp at lfit
            omega
          have q4 : (headsAcc rows pre).length ≤ pre.length := by simpa [headsAcc] using q2
          exact szl' (by omega)
        · have tk : Tk H2 (upd H2 p (pinO p o)) := tk_upd ho3 (fun ys z => by cases z)
          have hn : valR rws (keyOf (eSign (signOf rows fl))) = none := by cases z : valR rws (keyOf (eSign (signOf rows fl))) with
            | none => rfl
            | some x => rw [z] at hq; cases hq
          rw [putR_new hn] at n
          refine hend _ (Same.mut (hs'.trans e2) hp2) ⟨_, n, ?_, ?_⟩
          · rw [hstp]; unfold hstep; rw [← hany, hq, if_neg (by decide), List.map_append, List.map_append, hk]; rfl
          · rw [hstp]; unfold hstep; rw [← hany, hq, if_neg (by decide), List.map_append, List.map_append]
            exact DqAll.append (DqAll.tk tk _ _ (noLs_map fun a _ => noL_eFl a.2) hd) (DqAll.one (Dq.tk tk _ _ (noL_eFl fl) dv4))
    · intro σ' H' hl' hh' hs' a'
      obtain ⟨v2, hv2, e2v⟩ := hh' 3 (vA (.ref p)) rfl
      cases e2v
      obtain ⟨rws, ht, hk, hd⟩ := a'
      obtain ⟨o, ho, hdo, _⟩ := id ht
      refine ⟨_, hv2, p, rws, rfl, ht, fun r hr => ?_⟩
      have hpr : p ≠ r := fun q => by rw [← q, ho] at hr; cases hr
      have hd' : DqAll H' ((headsOf rows (fitAll every log)).map eFl) (rws.map (·.2.2)) := by
        unfold headsOf
        rw [List.map_map]
        exact hd
      exact ⟨r, p, o, rws, Fl, eFl, headsOf rows (fitAll every log), rfl, upd_same, by rw [upd_ne hpr]; exact ho, hdo, hd'.mono (Same.new hr), (hE.filter.heads).srt, (fun l _ => by have := depth_fl l; omega),
        fun q ys hq hy => hrt _ _ ((hs'.trans (Same.new hr)).trans (Same.new hq)) ⟨q, ys, rfl, upd_same, hy.mono (Same.new hq)⟩⟩
end Rn
end
section
set_option maxHeartbeats 4000000
/-! The sorting: lists of the same members come out the same. -/
namespace Rn
open PySem PySem.W PyProof.Rows

def PInj {α : Type} (f : α → PyData) : Prop := ∀ a b l m, keyToks (f a) ++ l = keyToks (f b) ++ m → a = b ∧ l = m
theorem pinj_eN : PInj eN := fun a b l m h => by
  have h' : (Sum.inl ((a : Nat) : Int) : Int ⊕ List Nat) :: l = Sum.inl ((b : Nat) : Int) :: m := h
  injection h' with h1 h2
  injection h1 with h1
  exact ⟨Int.ofNat_inj.mp h1, h2⟩
theorem pinj_map {α : Type} {f : α → PyData} (hf : PInj f) : ∀ (as bs : List α) (l m : List (Int ⊕ List Nat)), keyToksAll (as.map f) ++ l = keyToksAll (bs.map f) ++ m → as = bs ∧ l = m
  | [], [], l, m, h => by
    have h' : (Sum.inl 0 : Int ⊕ List Nat) :: l = Sum.inl 0 :: m := h
    injection h' with _ h2
    exact ⟨rfl, h2⟩
  | [], b :: bs, l, m, h => by
    have h' : (Sum.inl 0 : Int ⊕ List Nat) :: l = Sum.inl 1 :: ((keyToks (f b) ++ keyToksAll (bs.map f)) ++ m) := h
    injection h' with h1 _
    cases h1
  | a :: as, [], l, m, h => by
    have h' : (Sum.inl 1 : Int ⊕ List Nat) :: ((keyToks (f a) ++ keyToksAll (as.map f)) ++ l) = Sum.inl 0 :: m := h
    injection h' with h1 _
    cases h1
  | a :: as, b :: bs, l, m, h => by
    have h' : (Sum.inl 1 : Int ⊕ List Nat) :: ((keyToks (f a) ++ keyToksAll (as.map f)) ++ l) = Sum.inl 1 :: ((keyToks (f b) ++ keyToksAll (bs.map f)) ++ m) := h
    injection h' with _ h2
    rw [List.append_assoc, List.append_assoc] at h2
    obtain ⟨e1, h3⟩ := hf a b _ _ h2
    obtain ⟨e2, h4⟩ := pinj_map hf as bs l m h3
    exact ⟨by rw [e1, e2], h4⟩
theorem pinj_tup {α : Type} {f : α → PyData} (hf : PInj f) : PInj (fun as : List α => PyData.tuple (as.map f)) := fun a b l m h => pinj_map hf a b l m h
theorem pinj_pr : PInj ePr := fun a b l m h => by
  obtain ⟨a1, a2⟩ := a
  obtain ⟨b1, b2⟩ := b
  have h' : keyToksAll ([a1, a2].map eN) ++ l = keyToksAll ([b1, b2].map eN) ++ m := h
  obtain ⟨e, hl⟩ := pinj_map pinj_eN _ _ _ _ h'
  injection e with e1 e
  injection e with e2 _
  exact ⟨by rw [e1, e2], hl⟩
theorem pinj_lot : PInj eLot := pinj_tup pinj_pr
theorem pinj_fl : PInj eFl := pinj_tup pinj_lot
theorem PInj.inj {α : Type} {f : α → PyData} (h : PInj f) {a b : α} (e : keyToks (f a) = keyToks (f b)) : a = b := (h a b [] [] (by rw [e])).1
theorem same_eq {α : Type} {f : α → PyData} (h : PInj f) {c a : α} (e : sameRank (dataLe false f) c a = true) : c = a := by
  unfold sameRank at e
  rw [Bool.and_eq_true] at e
  have h1 : (!dataLt (f a) (f c)) = true := e.1
  have h2 : (!dataLt (f c) (f a)) = true := e.2
  rw [Bool.not_eq_true'] at h1 h2
  exact h.inj ((listOrd itemOrd).total _ _ h2 h1)
theorem le_total {α : Type} (f : α → PyData) : TotalLe (dataLe false f) := sortLe_total (listOrd itemOrd) false fun b => keyToks (f b)
theorem same_filter {α : Type} {f : α → PyData} (h : PInj f) (c : α) [DecidableEq α] (l : List α) : l.filter (sameRank (dataLe false f) c) = List.replicate (l.count c) c := by
  have e : l.filter (sameRank (dataLe false f) c) = l.filter (· == c) := by
    refine List.filter_congr fun a _ => ?_
    by_cases q : a = c
    · subst q
      rw [sameRank_self (le_total f)]
      simp
    · have : sameRank (dataLe false f) c a = false := by
        cases z : sameRank (dataLe false f) c a with
        | false => rfl
        | true => exact absurd (same_eq h z).symm q
      rw [this]
      simp [q]
  rw [e, List.filter_beq]
/-- lists of the same members, however they stand, are sorted to one list -/
theorem sort_perm {α : Type} [DecidableEq α] {f : α → PyData} (h : PInj f) {l m : List α} (p : l.Perm m) : l.mergeSort (dataLe false f) = m.mergeSort (dataLe false f) := by
  refine sort_unique (le_total f) (sort_pairwise (le_total f) l) fun c => ?_
  rw [sort_stable (le_total f), same_filter h, same_filter h, p.count_eq]
/-- the sorted list told -/
theorem sort_is {α : Type} [DecidableEq α] {f : α → PyData} (h : PInj f) {l m : List α} (p : m.Perm l) (hs : m.Pairwise fun a b => dataLe false f a b = true) : l.mergeSort (dataLe false f) = m := by
  refine (sort_unique (le_total f) hs fun c => ?_).symm
  rw [same_filter h, same_filter h, p.count_eq]
theorem le_nil (f : Fl) : dataLe false eFl [] f = true := by
  show (!dataLt (eFl f) (eFl [])) = true
  have e : dataLt (eFl f) (eFl []) = false := by
    cases f with
    | nil => exact lex_irrefl _
    | cons a as =>
      show lexLt itemOrd (.inl 1 :: _) [.inl 0] = false
      rfl
  rw [e]
  rfl
theorem esrt_sort (l : List Fl) : Esrt (sortFls l) := fun h => by
  unfold sortFls at *
  have hp := sort_pairwise (le_total eFl) l
  cases e : l.mergeSort (dataLe false eFl) with
  | nil => rw [e] at h; simp at h
  | cons x t =>
    rw [e] at h hp
    by_cases hx : x = []
    · exact ⟨t, by rw [hx]⟩
    · rcases List.mem_cons.mp h with q | q
      · exact absurd q.symm hx
      · have h1 := (List.pairwise_cons.mp hp).1 [] q
        have h2 : sameRank (dataLe false eFl) x [] = true := by
          unfold sameRank
          rw [h1, le_nil]
          rfl
        exact absurd (same_eq pinj_fl h2) hx

/-! ### the rows, all of them -/
theorem stepRows_mem {pre : List Nat} {f : List Row} (h : ∀ r, RowIn pre r → r ∈ f) (m : Nat) : ∀ r, RowIn (pre ++ [m]) r → r ∈ stepRows f m := fun r ⟨h1, h2⟩ => by
  rw [List.length_append] at h1
  obtain ⟨r0, v, rfl⟩ : ∃ r0 v, r = r0 ++ [v] := by
    have hne : r ≠ [] := fun z => by rw [z] at h1; simp at h1
    exact ⟨r.dropLast, r.getLast hne, (List.dropLast_concat_getLast hne).symm⟩
  have hl : r0.length = pre.length := by simpa using h1
  rw [List.zip_append hl] at h2
  unfold stepRows
  refine List.mem_flatMap.mpr ⟨r0, h r0 ⟨hl, fun p hp => h2 p (List.mem_append_left _ hp)⟩, List.mem_map.mpr ⟨v, ?_, rfl⟩⟩
  have := h2 (v, m) (List.mem_append_right _ (by simp))
  simpa using this
theorem foldRows_mem : ∀ (sz pre : List Nat) (f : List Row), (∀ r, RowIn pre r → r ∈ f) → ∀ r, RowIn (pre ++ sz) r → r ∈ sz.foldl stepRows f
  | [], pre, f, h => by simpa using h
  | n :: sz, pre, f, h => by
    have q := foldRows_mem sz (pre ++ [n]) (stepRows f n) (stepRows_mem h n)
    simpa using q
theorem allRows_mem {sz : List Nat} {r : Row} : r ∈ allRows sz ↔ RowIn sz r := by
  refine ⟨fun h => allRows_in sz r h, fun h => ?_⟩
  have q := foldRows_mem sz [] [[]] (fun r ⟨h1, _⟩ => by
    have : r = [] := List.length_eq_zero_iff.mp h1
    simp [this])
  exact q r (by simpa using h)
theorem stepRows_nodup {f : List Row} {n : Nat} (h : f.Nodup) (hl : ∀ r ∈ f, r.length = n) (m : Nat) : (stepRows f m).Nodup := by
  unfold stepRows
  induction f with
  | nil => simp
  | cons r f ih =>
    rw [List.flatMap_cons, List.nodup_append]
    have h' := List.nodup_cons.mp h
    refine ⟨?_, ih h'.2 fun x hx => hl x (by simp [hx]), fun a ha b hb e => ?_⟩
    · refine List.Pairwise.map _ (fun a b (hab : a ≠ b) e => hab ?_) List.nodup_range
      have := List.append_cancel_left e
      injection this
    · obtain ⟨v, _, rfl⟩ := List.mem_map.mp ha
      obtain ⟨r2, hr2, hb⟩ := List.mem_flatMap.mp hb
      obtain ⟨v2, _, rfl⟩ := List.mem_map.mp hb
      have q := List.append_inj e (by rw [hl r (by simp), hl r2 (by simp [hr2])])
      exact h'.1 (q.1 ▸ hr2)
theorem foldRows_nodup : ∀ (sz : List Nat) (f : List Row) (n : Nat), f.Nodup → (∀ r ∈ f, r.length = n) → (sz.foldl stepRows f).Nodup
  | [], f, n, h, _ => h
  | m :: sz, f, n, h, hl => foldRows_nodup sz (stepRows f m) (n + 1) (stepRows_nodup h hl m) (fun r hr => by
    obtain ⟨r0, h0, hr⟩ := List.mem_flatMap.mp hr
    obtain ⟨v, _, rfl⟩ := List.mem_map.mp hr
    simp [hl r0 h0])
theorem allRows_nodup (sz : List Nat) : (allRows sz).Nodup := foldRows_nodup sz [[]] 0 (by simp) (fun r hr => by simp at hr; simp [hr])
theorem rising_pw : ∀ l : List Nat, rising l = true ↔ l.Pairwise (· < ·)
  | [] => by simp [rising]
  | [a] => by simp [rising]
  | a :: b :: t => by
    have ih := rising_pw (b :: t)
    have e : rising (a :: b :: t) = (decide (a < b) && rising (b :: t)) := rfl
    rw [e, Bool.and_eq_true, ih, List.pairwise_cons (a := a)]
    refine ⟨fun ⟨h1, h2⟩ => ⟨fun x hx => ?_, h2⟩, fun ⟨h1, h2⟩ => ⟨by simpa using h1 b (by simp), h2⟩⟩
    have h1' : a < b := by simpa using h1
    rcases List.mem_cons.mp hx with q | q
    · rw [q]; exact h1'
    · exact Nat.lt_trans h1' ((List.pairwise_cons.mp h2).1 x q)
theorem knobsBy_mem {n k : Nat} {ks : Row} : ks ∈ knobsBy n k ↔ ks.length = k ∧ (∀ x ∈ ks, x < n) ∧ ks.Pairwise (· < ·) := by
  unfold knobsBy
  rw [List.mem_filter, rising_pw, knobsAll_eq]
  refine ⟨fun ⟨h1, h2⟩ => ?_, fun ⟨h1, h2, h3⟩ => ⟨allRows_mem.mpr ⟨by simp [h1], fun p hp => ?_⟩, h3⟩⟩
  · have q := knobsAll_in (many := n) (size := k) (r := ks) (by rw [knobsAll_eq]; exact h1)
    exact ⟨q.1, q.2, h2⟩
  · have q := List.of_mem_zip hp
    rw [(List.mem_replicate.mp q.2).2]
    exact h2 _ q.1
theorem knobsBy_nodup (n k : Nat) : (knobsBy n k).Nodup := by
  unfold knobsBy
  rw [knobsAll_eq]
  exact (allRows_nodup _).filter _

/-! ### the lots -/
theorem lotsOn_mem (sz : List Nat) : ∀ (ks : List Nat) (f : List Lot) (l : Lot), l ∈ ks.foldl (stepLots sz) f ↔ ∃ l0 m, l0 ∈ f ∧ l = l0 ++ m ∧ m.map (·.1) = ks ∧ ∀ p ∈ m, p.2 < sz.getD p.1 0
  | [], f, l => by
    refine ⟨fun h => ⟨l, [], h, by simp, rfl, fun p hp => by simp at hp⟩, fun ⟨l0, m, h0, e, hm, _⟩ => ?_⟩
    have : m = [] := by simpa using hm
    subst this
    simpa [e] using h0
  | k :: ks, f, l => by
    show l ∈ ks.foldl (stepLots sz) (stepLots sz f k) ↔ _
    rw [lotsOn_mem sz ks (stepLots sz f k) l]
    constructor
    · rintro ⟨l1, m, h1, rfl, hm, hp⟩
      obtain ⟨l0, h0, hl⟩ := List.mem_flatMap.mp h1
      obtain ⟨v, hv, rfl⟩ := List.mem_map.mp hl
      refine ⟨l0, (k, v) :: m, h0, by simp, by simp [hm], fun p hpm => ?_⟩
      rcases List.mem_cons.mp hpm with q | q
      · rw [q]; simpa using hv
      · exact hp p q
    · rintro ⟨l0, m, h0, rfl, hm, hp⟩
      cases m with
      | nil => simp at hm
      | cons p m =>
        obtain ⟨k', v⟩ := p
        simp at hm
        obtain ⟨rfl, hm⟩ := hm
        refine ⟨l0 ++ [(k', v)], m, List.mem_flatMap.mpr ⟨l0, h0, List.mem_map.mpr ⟨v, ?_, rfl⟩⟩, by simp, hm, fun p hpm => hp p (by simp [hpm])⟩
        have := hp (k', v) (by simp)
        simpa using this
theorem lotsOn_mem' {sz ks : List Nat} {l : Lot} : l ∈ lotsOn sz ks ↔ l.map (·.1) = ks ∧ ∀ p ∈ l, p.2 < sz.getD p.1 0 := by
  unfold lotsOn
  rw [lotsOn_mem]
  constructor
  · rintro ⟨l0, m, h0, rfl, hm, hp⟩
    simp at h0
    subst h0
    exact ⟨by simpa using hm, by simpa using hp⟩
  · rintro ⟨h1, h2⟩
    exact ⟨[], l, by simp, by simp, h1, h2⟩
theorem stepLots_nodup {sz : List Nat} {f : List Lot} {n : Nat} (h : f.Nodup) (hl : ∀ r ∈ f, r.length = n) (k : Nat) : (stepLots sz f k).Nodup := by
  unfold stepLots
  induction f with
  | nil => simp
  | cons r f ih =>
    rw [List.flatMap_cons, List.nodup_append]
    have h' := List.nodup_cons.mp h
    refine ⟨?_, ih h'.2 fun x hx => hl x (by simp [hx]), fun a ha b hb e => ?_⟩
    · refine List.Pairwise.map _ (fun a b (hab : a ≠ b) e => hab ?_) List.nodup_range
      have := List.append_cancel_left e
      injection this with this
      injection this
    · obtain ⟨v, _, rfl⟩ := List.mem_map.mp ha
      obtain ⟨r2, hr2, hb⟩ := List.mem_flatMap.mp hb
      obtain ⟨v2, _, rfl⟩ := List.mem_map.mp hb
      have q := List.append_inj e (by rw [hl r (by simp), hl r2 (by simp [hr2])])
      exact h'.1 (q.1 ▸ hr2)
theorem foldLots_nodup (sz : List Nat) : ∀ (ks : List Nat) (f : List Lot) (n : Nat), f.Nodup → (∀ r ∈ f, r.length = n) → (ks.foldl (stepLots sz) f).Nodup
  | [], f, n, h, _ => h
  | m :: ks, f, n, h, hl => foldLots_nodup sz ks (stepLots sz f m) (n + 1) (stepLots_nodup h hl m) (fun r hr => by
    obtain ⟨r0, h0, hr⟩ := List.mem_flatMap.mp hr
    obtain ⟨v, _, rfl⟩ := List.mem_map.mp hr
    simp [hl r0 h0])
theorem lotsOn_nodup (sz ks : List Nat) : (lotsOn sz ks).Nodup := foldLots_nodup sz ks [[]] 0 (by simp) (fun r hr => by simp at hr; simp [hr])
theorem flat_nodup {g : Rig} : ∀ l : List (List Nat), l.Nodup → (l.flatMap fun ks => (lotsOn g.1 ks).filter fun l => (rowsOf g).any fun r => decide (restr r ks = l)).Nodup
  | [], _ => by simp
  | ks :: l, h => by
    have h' := List.nodup_cons.mp h
    rw [List.flatMap_cons, List.nodup_append]
    refine ⟨(lotsOn_nodup _ _).filter _, flat_nodup l h'.2, fun a ha b hb e => ?_⟩
    subst e
    obtain ⟨ks2, hk2, hb⟩ := List.mem_flatMap.mp hb
    have q1 := (lotsOn_mem'.mp (List.mem_filter.mp ha).1).1
    have q2 := (lotsOn_mem'.mp (List.mem_filter.mp hb).1).1
    exact h'.1 (q1.symm.trans q2 ▸ hk2)
theorem restr_fst (r : Row) (ks : List Nat) : (restr r ks).map (·.1) = ks := by unfold restr; rw [List.map_map]; simp [Function.comp_def]
theorem rowIn_get {sz r : List Nat} (h : RowIn sz r) {i : Nat} (hi : i < sz.length) : r.getD i 0 < sz.getD i 0 := by
  obtain ⟨h1, h2⟩ := h
  have hr : i < r.length := by omega
  rw [List.getD_eq_getElem?_getD, List.getD_eq_getElem?_getD, List.getElem?_eq_getElem hr, List.getElem?_eq_getElem hi]
  refine h2 (r[i], sz[i]) ?_
  rw [List.mem_iff_getElem]
  exact ⟨i, by simp; omega, by simp⟩
theorem lotsRaw_mem {g : Rig} {k : Nat} {l : Lot} : l ∈ lotsRaw g k ↔ ∃ ks ∈ knobsBy g.1.length k, ∃ r ∈ rowsOf g, l = restr r ks := by
  unfold lotsRaw
  rw [List.mem_flatMap]
  constructor
  · rintro ⟨ks, hks, hl⟩
    obtain ⟨_, hq⟩ := List.mem_filter.mp hl
    obtain ⟨r, hr, hd⟩ := List.any_eq_true.mp hq
    exact ⟨ks, hks, r, hr, (of_decide_eq_true hd).symm⟩
  · rintro ⟨ks, hks, r, hr, rfl⟩
    refine ⟨ks, hks, List.mem_filter.mpr ⟨lotsOn_mem'.mpr ⟨restr_fst r ks, fun p hp => ?_⟩, List.any_eq_true.mpr ⟨r, hr, by simp⟩⟩⟩
    obtain ⟨kn, hkn, rfl⟩ := List.mem_map.mp hp
    exact rowIn_get (rowsOf_in hr).1 ((knobsBy_mem.mp hks).2.1 kn hkn)
theorem partsAll_mem (r : Row) : ∀ (n : Nat) (l : Lot), l ∈ partsAll r n ↔ ∃ ks : List Nat, ks.Pairwise (· < ·) ∧ (∀ x ∈ ks, x < n) ∧ l = restr r ks
  | 0, l => by
    constructor
    · intro h
      simp [partsAll] at h
      exact ⟨[], List.Pairwise.nil, by simp, by simp [h, restr]⟩
    · rintro ⟨ks, _, h2, rfl⟩
      cases ks with
      | nil => simp [partsAll, restr]
      | cons a t => exact absurd (h2 a (by simp)) (by omega)
  | n + 1, l => by
    have e : partsAll r (n + 1) = partsStep r (partsAll r n) n := by unfold partsAll; rw [List.range_succ, List.foldl_append]; rfl
    rw [e]
    unfold partsStep
    rw [List.mem_append, partsAll_mem r n l, List.mem_map]
    constructor
    · rintro (⟨ks, h1, h2, rfl⟩ | ⟨l0, h0, rfl⟩)
      · exact ⟨ks, h1, fun x hx => by have := h2 x hx; omega, rfl⟩
      · obtain ⟨ks, h1, h2, rfl⟩ := (partsAll_mem r n l0).mp h0
        refine ⟨ks ++ [n], ?_, fun x hx => ?_, by unfold restr; simp⟩
        · rw [List.pairwise_append]
          exact ⟨h1, by simp, fun a ha b hb => by simp at hb; rw [hb]; exact h2 a ha⟩
        · rcases List.mem_append.mp hx with q | q
          · have := h2 x q; omega
          · simp at q; omega
    · rintro ⟨ks, h1, h2, rfl⟩
      by_cases hn : n ∈ ks
      · refine .inr ⟨restr r ks.dropLast, (partsAll_mem r n _).mpr ⟨ks.dropLast, h1.sublist (List.dropLast_sublist ks), fun x hx => ?_, rfl⟩, ?_⟩
        · have hne : ks ≠ [] := fun z => by rw [z] at hn; simp at hn
          have hlast : ks = ks.dropLast ++ [ks.getLast hne] := (List.dropLast_concat_getLast hne).symm
          rw [hlast, List.pairwise_append] at h1
          have q1 := h1.2.2 x hx (ks.getLast hne) (by simp)
          have q2 := h2 _ (List.getLast_mem hne)
          omega
        · have hne : ks ≠ [] := fun z => by rw [z] at hn; simp at hn
          have hlast : ks = ks.dropLast ++ [ks.getLast hne] := (List.dropLast_concat_getLast hne).symm
          have hl : ks.getLast hne = n := by
            have q2 := h2 _ (List.getLast_mem hne)
            rw [hlast] at hn h1
            rw [List.pairwise_append] at h1
            rcases List.mem_append.mp hn with q | q
            · have := h1.2.2 n q (ks.getLast hne) (by simp)
              omega
            · simpa using (List.mem_singleton.mp q).symm
          conv => rhs; rw [hlast, hl]
          unfold restr
          simp
      · exact .inl ⟨ks, h1, fun x hx => by
          have := h2 x hx
          have : x ≠ n := fun z => hn (z ▸ hx)
          omega, rfl⟩
theorem lawRaw_mem {g : Rig} {k : Nat} {l : Lot} : l ∈ lawRaw g k ↔ ∃ ks ∈ knobsBy g.1.length k, ∃ r ∈ rowsOf g, l = restr r ks := by
  unfold lawRaw
  rw [dsteps_mem]
  constructor
  · rintro (h | h)
    · simp at h
    · obtain ⟨r, hr, hl⟩ := List.mem_flatMap.mp h
      obtain ⟨h1, h2⟩ := List.mem_filter.mp hl
      obtain ⟨ks, q1, q2, rfl⟩ := (partsAll_mem r r.length l).mp h1
      have hk : ks.length = k := by have := of_decide_eq_true h2; unfold restr at this; simpa using this
      exact ⟨ks, knobsBy_mem.mpr ⟨hk, by rw [(rowsOf_in hr).1.1] at q2; exact q2, q1⟩, r, hr, rfl⟩
  · rintro ⟨ks, hks, r, hr, rfl⟩
    obtain ⟨h1, h2, h3⟩ := knobsBy_mem.mp hks
    refine .inr (List.mem_flatMap.mpr ⟨r, hr, List.mem_filter.mpr ⟨(partsAll_mem r r.length _).mpr ⟨ks, h3, by rw [(rowsOf_in hr).1.1]; exact h2, rfl⟩, ?_⟩⟩)
    unfold restr
    simp [h1]
theorem lots_same (g : Rig) (k : Nat) : progLots g k = lawLots g k := by
  unfold progLots lawLots sortLots
  refine sort_perm pinj_lot ((List.perm_ext_iff_of_nodup (flat_nodup _ (knobsBy_nodup _ _)) (dsteps_nodup _ _ List.nodup_nil)).mpr fun l => ?_)
  show l ∈ lotsRaw g k ↔ l ∈ lawRaw g k
  rw [lotsRaw_mem, lawRaw_mem]
theorem faults_same (g : Rig) (s : Nat × Nat) : faultsOf g s = lawAll g s := by unfold faultsOf lawAll; rw [lots_same]
theorem knobsBy_few : ∀ n, n ≤ 3 → ∀ k, k ≤ 3 → (knobsBy n k).length ≤ 3 := by decide
theorem lots_few {g : Rig} (h : RigWF g) {k : Nat} (hk : k ≤ g.1.length) : (progLots g k).length ≤ 192 := by
  unfold progLots sortLots
  rw [List.length_mergeSort]
  have q := lots_part_len h hk (knobsBy g.1.length k) (fun ks hks => (knobsBy_mem.mp hks).1)
  have q2 := knobsBy_few g.1.length h.sz.2.1 k (Nat.le_trans hk h.sz.2.1)
  have q3 : (knobsBy g.1.length k).length * 64 ≤ 3 * 64 := Nat.mul_le_mul_right _ q2
  exact Nat.le_trans q q3
theorem faults_esrt (g : Rig) (s : Nat × Nat) : Esrt (faultsOf g s) := esrt_sort _
theorem left_same (g : Rig) (s : Nat × Nat) (log : Log) : leftOf g s log = fitAll (lawAll g s) log := by unfold leftOf fitAll; rw [faults_same]
theorem heads_same (g : Rig) (s : Nat × Nat) (log : Log) : headsLeft g s log = lawHeads (rowsOf g) (lawAll g s) log := by unfold headsLeft lawHeads; rw [left_same]
end Rn
end
section
set_option maxHeartbeats 4000000
/-! Sorted lots ascend. -/
namespace Rn
open PySem PySem.W PyProof.Rows

theorem lex_shift (e r : Nat → Bool) (d : Bool) : ∀ n j, Ob.lexAt e r d (j + 1) n = Ob.lexAt (fun i => e (i + 1)) (fun i => r (i + 1)) d j n
  | 0, j => by rw [Ob.lexAt_zero, Ob.lexAt_zero]
  | n + 1, j => by rw [Ob.lexAt_succ, Ob.lexAt_succ, lex_shift e r d n (j + 1)]
theorem lt_pr (p q : Nat × Nat) : dataLt (ePr p) (ePr q) = decide (p.1 < q.1 ∨ (p.1 = q.1 ∧ p.2 < q.2)) := by
  refine (dataLt_ii _ _ _ _).trans ?_
  exact decide_eq_decide.mpr (by omega)
theorem prLe_eq (p q : Nat × Nat) : prLe p q = !dataLt (ePr q) (ePr p) := by
  rw [lt_pr]
  unfold prLe
  by_cases h1 : p.1 = q.1
  · rw [if_pos h1]
    by_cases h2 : p.2 = q.2
    · rw [if_pos h2]; simp [h1, h2]
    · rw [if_neg h2]
      rw [← decide_not]
      exact decide_eq_decide.mpr (by omega)
  · rw [if_neg h1, ← decide_not]
    exact decide_eq_decide.mpr (by omega)
theorem lotLe_eq : ∀ l m : Lot, lotLe l m = !dataLt (eLot m) (eLot l)
  | [], [] => by
    show Ob.lexAt _ _ _ 0 0 = !lexLt itemOrd (keyToksAll []) (keyToksAll [])
    rw [lex_irrefl]
    rfl
  | [], q :: m => by
    show Ob.lexAt _ _ _ 0 0 = !lexLt itemOrd (.inl 1 :: _) [.inl 0]
    rfl
  | p :: l, [] => by
    show Ob.lexAt _ _ _ 0 0 = !lexLt itemOrd [.inl 0] (.inl 1 :: _)
    rfl
  | p :: l, q :: m => by
    have ih := lotLe_eq l m
    have e1 : dataLt (eLot (q :: m)) (eLot (p :: l)) = if PyData.eqv (ePr q) (ePr p) = true then dataLt (eLot m) (eLot l) else dataLt (ePr q) (ePr p) := by
      show dataLt (.tuple _) (.tuple _) = _
      rw [dataLt_tuple]
      refine (dataLt_cons (alike_pr q p) (m.map ePr) (l.map ePr)).trans ?_
      show _ = if _ then dataLt (.tuple _) (.tuple _) else _
      rw [dataLt_tuple]
    rw [e1, eqv_pr]
    have e2 : lotLe (p :: l) (q :: m) = if p = q then lotLe l m else prLe p q := by
      unfold lotLe
      have hm : min (p :: l).length (q :: m).length = min l.length m.length + 1 := by simp only [List.length_cons]; omega
      rw [hm, Ob.lexAt_succ, lex_shift]
      simp only [List.getD_cons_zero, List.getD_cons_succ, List.length_cons, Nat.add_le_add_iff_right]
      by_cases h : p = q
      · simp [h]
      · simp [h]
    rw [e2]
    by_cases h : p = q
    · rw [if_pos h, ih, if_pos (decide_eq_true h.symm)]
    · have h' : ¬ q = p := fun z => h z.symm
      rw [if_neg h, prLe_eq]
      simp [h']
theorem asc_sort {l : List Lot} (h : l.Nodup) : Asc (sortLots l) := fun i hi => by
  have hp := sort_pairwise (le_total eLot) l
  have hn : (sortLots l).Nodup := (List.mergeSort_perm l (dataLe false eLot)).nodup_iff.mpr h
  have e1 : (sortLots l).getD (i + 1) [] = (sortLots l)[i + 1] := by rw [List.getD_eq_getElem?_getD, List.getElem?_eq_getElem hi]; rfl
  have e0 : (sortLots l).getD i [] = (sortLots l)[i] := by rw [List.getD_eq_getElem?_getD, List.getElem?_eq_getElem (by omega)]; rfl
  rw [e1, e0, lotLe_eq]
  have q := (List.pairwise_iff_getElem.mp hp) i (i + 1) (by unfold sortLots at hi; omega) (by unfold sortLots at hi; omega) (by omega)
  have q' : (!dataLt (eLot (sortLots l)[i + 1]) (eLot (sortLots l)[i])) = true := q
  rw [Bool.not_eq_true'] at q'
  cases z : dataLt (eLot (sortLots l)[i]) (eLot (sortLots l)[i + 1]) with
  | true => rfl
  | false =>
    have e : keyToks (eLot (sortLots l)[i]) = keyToks (eLot (sortLots l)[i + 1]) := (listOrd itemOrd).total _ _ z q'
    have e' := pinj_lot.inj e
    have := (List.getElem_inj hn).mp e'
    omega
end Rn
end
section
set_option maxHeartbeats 4000000
/-! Promises of defs that are called with no repr under way; repr of data. -/
namespace Rn
open PySem PySem.Spec PyProof.Rows L2

structure FnG (P : Program) (w : World) (K : PySem.W.Frag) (mg : Str → Option Value) (base : Heap) (k : Nat) (f : Addr) (fd : FuncData) (ps : List Str) (sp : Sp) : Prop where
  len : ∀ vs H Q E, sp vs H Q E → vs.length = ps.length
  run : ∀ (A : Around) (outer : List Env) (s : Shared) (H : Hp) (args : Args) (us : List Value) (vs : List L2.V) (Q : VK) (E : XK), Room k A → A.guards = some [] → Env0 P w K mg base A outer s H → BindsTo s fd args (ps.zip us) → Vals vs us → sp vs H Q E →
    codeAny (model P w) A (.call (.ref f) args) (CR CX0 outer P w H s Q E) s
section
variable {P : Program} {w : World} {K : PySem.W.Frag} {mg : Str → Option Value} {base : Heap}
theorem FnG.mono {j k : Nat} {f : Addr} {fd : FuncData} {ps : List Str} {sp : Sp} (F : FnG P w K mg base j f fd ps sp) (h : j ≤ k) : FnG P w K mg base k f fd ps sp := ⟨F.len, fun A outer s H args us vs Q E hr => F.run A outer s H args us vs Q E (hr.mono h)⟩
/-- a def's body, told for the calls that have no repr above them -/
theorem g_of {x qual : Str} {st : Stmt} {f : Addr} {fd : FuncData} {N ps : List Str} {k : Nat} {sp : Sp} (F : Fun K x qual st f fd) (S : FnScope N ps (defScope st)) (len : ∀ vs H Q E, sp vs H Q E → vs.length = ps.length)
    (told : ∀ (cdv : Value) (A : Around) (outer : List Env) (s : Shared) (H : Hp) (vs : List L2.V) (Q : VK) (E : XK), Room k (A.deeper (envOfC qual (defScope st) s.heap.objs.size f cdv)) → A.guards = some [] → sp vs H Q E →
      ∃ t, PSs (cxOf CX0 P w K mg base N qual (defScope st) f cdv A outer s H E).nox (defBody st) t ∧ t { nx := fun _ H' => Q .non H', rt := Q } (L2.start N vs) H) : FnG P w K mg base (k + 1) f fd ps sp := by
  obtain ⟨oc, od, kV, doc, pm, an, cdv, ct, osl, rfl, at_, code⟩ := F.ex
  refine ⟨len, fun A outer s H args us vs Q E room quiet env binds vals promise => ?_⟩
  have there : K.In s.heap := env.mod.kin.keeps fun b o e => (env.bs b o e).1
  have kinds : ∀ y ∈ ps.zip us, (defScope st).names.lookup y.1 = some .local ∨ ((defScope st).names.lookup y.1 = some .cell ∧ ((cellsFrom (s.heap.objs.size + 1) (defScope st).names []).lookup y.1).isSome = true) := by
    rintro ⟨n, v⟩ hy
    exact (S.par n (List.of_mem_zip hy).1).elim .inl fun q => .inr ⟨q, PySem.W.cellsFrom_some _ _ _ (.inl q)⟩
  refine codeAny_call_function room.depth (there _ _ at_) rfl S.co S.gen rfl (PySem.W.codeRec_of there code) (binds _ _ _ _ ?_)
  refine wpAny_newFunctionEnv_cells S.kind kinds fun _ ee s1 x1 => ?_
  subst ee
  refine ⟨(env.mod.nolimit.keeps fun b o e => (env.bs b o e).1).keeps x1.toInCall.keep, codeAny_func ?_⟩
  obtain ⟨t, walk, reads⟩ := told cdv A outer s H vs Q E (room.deeper _) quiet promise
  have inv : Inv (cxOf CX0 P w K mg base N qual (defScope st) f cdv A outer s H E) [] (L2.start N vs) H s1 := inv_start S room.hd env (len _ _ _ _ promise) vals x1
  refine wpAny_mono (walk.nox.run [] s1 (L2.start N vs) H _ inv reads) (fun fl s' got => ?_) fun _ _ z => z
  cases fl with
  | ret u => obtain ⟨v, _, H', J, rv, q⟩ := got; exact ⟨v, H', J.os, J.bare, J.base, J.hok, rv, q⟩
  | next => obtain ⟨_, H', J, q⟩ := got; exact ⟨V.non, H', J.os, J.bare, J.base, J.hok, rfl, q⟩
  | brk => exact got.choose_spec.choose_spec.2.elim
  | cont => exact got.choose_spec.choose_spec.2.elim
end
/-- what is called by name and asks that -/
def CalG (P : Program) (w : World) (K : PySem.W.Frag) (mg : Str → Option Value) (base : Heap) (k : Nat) (x : Str) (ps : List Str) (sp : Sp) : Prop :=
  ∃ (f : Addr) (fd : FuncData), FnG P w K mg base k f fd ps sp ∧ PySem.W.keepIn K (.ref f) = true ∧ Binds K fd ps [] ∧ mg x = some (.ref f)
section
variable {X : Cx} {k j : Nat} {ps : List Str} {sp : Sp} {x : Str} {p pos : Pos} {e : Expr} {es : List Expr} {t : TA}
theorem pe_calG (c : CalG X.prog X.w X.K X.mg X.base k x ps sp) (hr : Room j X.A) (quiet : X.A.guards = some []) (ha : PA X (e :: es) t) (hkj : k ≤ j := by decide) (hg : Gl X x := by rfl) (hdb : (x == ("__debug__" : Str)) = false := by decide)
    (he : starEach (e :: es) X.env = (false, eval e X.env) :: starEach es X.env := by rfl) (hpl : (backTo pos (starEach es X.env)).any (·.1) = false := by rfl) :
    PE X (.Call (.Name x p) (e :: es) [] pos) (tCall sp [] E0 t) := by
  obtain ⟨f, fd, F, kp, b, m⟩ := c
  refine ⟨fun pins s σ H Q inv h => wpAny_Call_Name_kw (ld_glob inv hg m ?_ hdb)⟩
  refine PySem.W.callWith_K (h₀ := X.base) inv.ok.mod.kin kp (thn (ha.run pos pins s σ H _ inv h) fun us s1 ⟨vs, H1, inv1, r, q⟩ => ⟨inv1.kIn, ?_⟩) he hpl
  have q' : sp vs H1 Q E0 := by
    have q2 : sp (vs ++ []) H1 Q E0 := q
    rwa [List.append_nil] at q2
  have ln : us.length = ps.length := by rw [← r.length]; exact F.len _ _ _ _ q'
  have bd : BindsTo s1 fd ⟨us, []⟩ (ps.zip us) := by
    have z := b s1 us inv1.kIn (by rw [List.append_nil]; exact ln)
    rwa [List.append_nil] at z
  refine wpAny_call (codeAny_mono ((F.mono hkj).run X.A X.stack s1 H1 ⟨us, []⟩ us vs Q E0 hr quiet inv1.env0 bd r q') fun res s' got => ?_)
  cases res with
  | error er => exact got.elim
  | ok fl => cases fl with
    | ret u => exact inv1.after got
    | next => exact False.elim got
    | brk => exact False.elim got
    | cont => exact False.elim got
end

/-! ### repr of data -/
def rRepr : List L2.V → Hp → VK → Prop := fun vs H Q => ∃ (v : L2.V) (d : PyData), vs = [v] ∧ Dq H d v ∧ d.showable = true ∧ d.hasDict = false ∧ d.depth ≤ 16 ∧ d.shown.length ≤ sizeLine ∧ Q (.str d.shown) H
theorem call_repr {X : Cx} (hu : X.A.units + 32 < cLine) (quiet : X.A.guards = some []) : CallR X (.builtin "repr") rRepr := by
  intro pins s σ H vs us Q I r h
  obtain ⟨v, d, rfl, hd, hs, hn, hdp, hz, q⟩ := h
  obtain ⟨u, rfl, ru⟩ := r.one
  have fin : ∀ (s' : Shared) (t : Tok), Inv X pins σ H s' → EP X pins σ Q (.str d.shown t) s' := fun s' t I' => ⟨.str d.shown, H, I', ⟨t, rfl⟩, q⟩
  have onref : ∀ a, u = .ref a → wpAny (model X.prog X.w) X.A (call (.builtin "repr") [u]) (EP X pins σ Q) X.xe s := fun a e => by
    subst e
    obtain ⟨as, rd⟩ := Dp.reads I _ _ _ (Dq.dp (K := X.K) d v hd) ru
    exact repr_of_reads' rd hs (PyData.noDict_hsm hn) quiet (by omega) (fun b o e => e) (fun h' u tk hk => fin _ _ (I.kept (t' := tk) hk)) hz
  cases d with
  | none => cases hd; cases ru; exact PySem.P.repr_of_none (fin _ _ (I.tok _))
  | bool b => cases hd; cases ru; exact PySem.P.repr_of_bool (fin _ _ (I.tok _))
  | int i =>
    cases hd
    obtain ⟨t, rfl⟩ := ru
    exact PySem.P.repr_of_int (by simpa [PyData.showable] using hs) (fin _ _ (I.tok _))
  | str x =>
    cases hd
    obtain ⟨t, rfl⟩ := ru
    exact PySem.P.repr_of_str (fin _ _ (I.tok _)) hz
  | list ds => obtain ⟨a, xs, rfl, _⟩ := id hd; exact onref a ru
  | tuple ds => obtain ⟨a, xs, rfl, _⟩ := id hd; exact onref a ru
  | dict kvs => exact hd.elim
end Rn
end
section
set_option maxHeartbeats 4000000
/-! Heaps told anew; what may change; the law's own state. -/
namespace Rn
open PySem PySem.Spec PyProof.Rows L2

/-- H1 tells the same heap in other words -/
def Rg (H H1 : Hp) : Prop := (∀ (P : Program) (w : World) (h : Heap), HOk P w H h → HOk P w H1 h ∧ ∀ fs ex, Un fs ex H H1 h h) ∧ ∀ b, H b = none → H1 b = none
theorem Rg.refl (H : Hp) : Rg H H := ⟨fun _ _ _ h => ⟨h, fun _ _ => Un.refl⟩, fun _ h => h⟩
theorem Rg.trans {H H1 H2 : Hp} (a : Rg H H1) (b : Rg H1 H2) : Rg H H2 := ⟨fun P w h ok => ⟨(b.1 P w h (a.1 P w h ok).1).1, fun fs ex => ((a.1 P w h ok).2 fs ex).trans ((b.1 P w h (a.1 P w h ok).1).2 fs ex)⟩, fun c z => b.2 c (a.2 c z)⟩
theorem rg_write {H : Hp} {a : Addr} {o o1 : HO} (ho : H a = some o) (mu : Mut (some o)) (tell : ∀ (P : Program) (w : World) (h : Heap), ObjOk P w H h a o → ObjOk P w (upd H a o1) h a o1) : Rg H (upd H a o1) := by
  refine ⟨fun P w h ok => ?_, fun b hb => (upd_ne (fun q => by rw [q, ho] at hb; cases hb)).trans hb⟩
  have m : Mut (H a) := by rw [ho]; exact mu
  have x := ok a o ho
  have e : ∃ u, h.get? a = some u := by
    cases hq : h.get? a with
    | some u => exact ⟨u, rfl⟩
    | none =>
      have y := tell P w h x
      cases o with
      | lst xs => obtain ⟨_, _, _, _, q⟩ := x; rw [hq] at q; cases q
      | ext φ => obtain ⟨_, ⟨_, q⟩, _⟩ := x; rw [hq] at q; cases q
      | dK kvs => obtain ⟨_, _, _, _, _, _, _, q, _⟩ := x; rw [hq] at q; cases q
      | dT kvs => obtain ⟨_, _, _, _, _, _, _, q, _⟩ := x; rw [hq] at q; cases q
      | set S n => obtain ⟨_, _, _, _, q, _⟩ := x; rw [hq] at q; cases q
      | ins C dx fs => obtain ⟨_, _, _, q, _⟩ := x; rw [hq] at q; cases q
      | tup xs => exact mu.elim
      | own y => exact mu.elim
      | xd fs => exact mu.elim
      | rng lo hi => exact mu.elim
      | frz o u => exact mu.elim
      | tbl ps => exact mu.elim
      | met f x => exact mu.elim
  exact ⟨ok.write m (.inl rfl) (fun _ _ _ q => q) e (tell P w h x), fun fs ex => Un.write m (.inl rfl) (fun _ _ _ q => q) e⟩
/-- a list that is no datum -/
def gl (a : Addr) (xs : List L2.V) : HO := .ext fun h => xs.length ≤ sizeLine ∧ ∃ (its : List Value) (n : Nat), Vals xs its ∧ h.get? a = some { cls := .type "list", data := .seq its.toArray n }
theorem rg_hide {H : Hp} {a : Addr} {xs : List L2.V} (h : H a = some (.lst xs)) : Rg H (upd H a (gl a xs)) := rg_write h True.intro fun P w hp x => by
  obtain ⟨z, its, n, r, e⟩ := x
  exact ⟨⟨z, its, n, r, e⟩, ⟨_, e⟩, fun h1 h2 ⟨z, its, n, r, e⟩ k => ⟨z, its, n, r, k _ e⟩⟩
theorem rg_show {H : Hp} {a : Addr} {xs : List L2.V} (h : H a = some (gl a xs)) : Rg H (upd H a (.lst xs)) := rg_write h True.intro fun P w hp x => by
  obtain ⟨⟨z, its, n, r, e⟩, _⟩ := x
  exact ⟨z, its, n, r, e⟩
/-- a promise, told in other words -/
def spG (sp : Sp) : Sp := fun vs H Q E => ∃ H1, Rg H H1 ∧ sp vs H1 (fun v H' => ∃ H2, Rg H' H2 ∧ Q v H2) E
theorem ghost {P : Program} {w : World} {K : PySem.W.Frag} {mg : Str → Option Value} {base : Heap} {k : Nat} {f : Addr} {fd : FuncData} {ps : List Str} {sp : Sp} (F : FnOk P w K mg base CX0 k f fd ps sp) : FnOk P w K mg base CX0 k f fd ps (spG sp) := by
  refine ⟨fun vs H Q E ⟨H1, _, h⟩ => F.len _ _ _ _ h, fun A outer s H args us vs Q E hr e0 hb hv ⟨H1, rg, h⟩ => ?_⟩
  obtain ⟨ok1, un1⟩ := rg.1 P w s.heap e0.hok
  have e1 : Env0 P w K mg base A outer s H1 := ⟨e0.frames, e0.mod, fun b o e => ⟨(e0.bs b o e).1, rg.2 b (e0.bs b o e).2⟩, e0.bsz, e0.funs, fun b hb => rg.2 b (e0.frf b hb), ok1, e0.bare⟩
  refine codeAny_mono (F.run A outer s H1 args us vs _ E hr e1 hb hv h) fun r s' hq => ?_
  cases r with
  | error er => exact hq.elim
  | ok fl => cases fl with
    | ret u =>
      obtain ⟨v, H', os, bare, un, hok, rv, H2, rg2, q⟩ := hq
      obtain ⟨ok2, un2⟩ := rg2.1 P w s'.heap hok
      exact ⟨v, H2, os, bare, ((un1 _ _).trans un).trans (un2 _ _), ok2, rv, q⟩
    | next => exact hq
    | brk => exact hq
    | cont => exact hq
theorem Cal.ghost {P : Program} {w : World} {K : PySem.W.Frag} {mg : Str → Option Value} {base : Heap} {k : Nat} {x : Str} {ps : List Str} {sp sp' : Sp} (c : Cal P w K mg base k x ps sp) (h : ∀ vs H Q E, sp' vs H Q E → spG sp vs H Q E) : Cal P w K mg base k x ps sp' := by
  obtain ⟨f, fd, F, kp, b, m⟩ := c
  exact ⟨f, fd, (Rn.ghost F).imp h, kp, b, m⟩

/-! ### what may change -/
def Fx (ms : List Addr) (H H' : Hp) : Prop := ∀ b u, b ∉ ms → (∀ φ, u ≠ HO.ext φ) → H b = some u → H' b = some u
theorem Fx.of_same {ms : List Addr} {H H' : Hp} (e : Same H H') : Fx ms H H' := fun b u _ _ h => e b u h
theorem Fx.trans {ms : List Addr} {H H1 H2 : Hp} (a : Fx ms H H1) (b : Fx ms H1 H2) : Fx ms H H2 := fun c u h1 h2 h => b c u h1 h2 (a c u h1 h2 h)
theorem Fx.wide {ms ms' : List Addr} {H H' : Hp} (a : Fx ms H H') (h : ∀ x ∈ ms, x ∈ ms') : Fx ms' H H' := fun c u h1 h2 e => a c u (fun q => h1 (h c q)) h2 e
theorem Fx.refl {ms : List Addr} {H : Hp} : Fx ms H H := fun _ _ _ _ h => h
/-- a thing that no datum holds -/
def Oth (H : Hp) (a : Addr) : Prop := ∃ u, H a = some u ∧ (∀ xs, u ≠ .tup xs) ∧ ∀ xs, u ≠ .lst xs
theorem Oth.dK {H : Hp} {a : Addr} {kvs : List (Key × L2.V)} (h : H a = some (.dK kvs)) : Oth H a := ⟨_, h, (fun xs q => by cases q), (fun xs q => by cases q)⟩
theorem Oth.ins {H : Hp} {a C dx : Addr} {fs : List (Str × L2.V)} (h : H a = some (.ins C dx fs)) : Oth H a := ⟨_, h, (fun xs q => by cases q), (fun xs q => by cases q)⟩
section
variable {ms : List Addr} {H H' : Hp} (ho : ∀ a ∈ ms, Oth H a) (e : Fx ms H H')
include ho e
theorem Fx.tup {a : Addr} {xs : List L2.V} (h : H a = some (.tup xs)) : H' a = some (.tup xs) := e a _ (fun q => by
  obtain ⟨u, hu, h1, _⟩ := ho a q
  rw [h] at hu
  exact h1 xs (Option.some.inj hu).symm) (fun φ q => by cases q) h
theorem Fx.lst {a : Addr} {xs : List L2.V} (h : H a = some (.lst xs)) : H' a = some (.lst xs) := e a _ (fun q => by
  obtain ⟨u, hu, _, h1⟩ := ho a q
  rw [h] at hu
  exact h1 xs (Option.some.inj hu).symm) (fun φ q => by cases q) h
/-- data stand while only such things change -/
theorem Fx.dqs : ∀ n : Nat, (∀ (d : PyData) (v : L2.V), sizeOf d ≤ n → Dq H d v → Dq H' d v) ∧ ∀ (ds : List PyData) (vs : List L2.V), sizeOf ds ≤ n → DqAll H ds vs → DqAll H' ds vs := by
  intro n
  induction n with
  | zero =>
    refine ⟨fun d v hn => ?_, fun ds vs hn => ?_⟩
    · cases d <;> simp at hn
    · cases ds <;> simp at hn
  | succ n ih =>
    refine ⟨fun d v hn hd => ?_, fun ds vs hn hd => ?_⟩
    · cases d with
      | none => exact hd
      | bool b => exact hd
      | int i => exact hd
      | str x => exact hd
      | list ds =>
        obtain ⟨a, xs, h1, h2, h3⟩ := hd
        exact ⟨a, xs, h1, Fx.lst ho e h2, ih.2 ds xs (by simp at hn; omega) h3⟩
      | tuple ds =>
        obtain ⟨a, xs, h1, h2, h3⟩ := hd
        exact ⟨a, xs, h1, Fx.tup ho e h2, ih.2 ds xs (by simp at hn; omega) h3⟩
      | dict kvs => exact hd
    · cases ds with
      | nil => exact hd
      | cons d ds =>
        obtain ⟨v, r, h1, h2, h3⟩ := hd
        exact ⟨v, r, h1, ih.1 d v (by simp at hn; omega) h2, ih.2 ds r (by simp at hn; omega) h3⟩
theorem Fx.dq {d : PyData} {v : L2.V} (h : Dq H d v) : Dq H' d v := (Fx.dqs ho e (sizeOf d)).1 d v (Nat.le_refl _) h
theorem Fx.dqAll {ds : List PyData} {vs : List L2.V} (h : DqAll H ds vs) : DqAll H' ds vs := (Fx.dqs ho e (sizeOf ds)).2 ds vs (Nat.le_refl _) h
theorem Fx.tk : Tk H H' := fun a xs h => Fx.tup ho e h
end
end Rn
end
section
set_option maxHeartbeats 4000000
namespace Rn
open PySem L2 PyProof.Rows
variable {P : Program} {w : World} {K : PySem.W.Frag} {mg : Str → Option Value} {base : Heap}

/-! _law_mixed -/
def mixed (c n : Int) : Int := ((((c * (1 + 2 * n) * 48271) % 2147483647 + 7919 * n * n + 104729 * n) * 69621) % 2147483629) / 7
theorem mixed_nn (c n : Int) : 0 ≤ mixed c n := by
  unfold mixed
  have := Int.emod_nonneg ((((c * (1 + 2 * n) * 48271) % 2147483647 + 7919 * n * n + 104729 * n) * 69621)) (b := 2147483629) (by decide)
  omega
abbrev sMixed : Stmt := top 46
theorem scMixed : FnScope ["cell", "n", "blend"] ["cell", "n"] (defScope sMixed) := ⟨rfl, rfl, rfl, by decide +kernel, rfl, by decide +kernel, by decide +kernel⟩
def RMixed : List PyData → Ab → Prop := fun ds Q => ∃ c n : Int, ds = [.int c, .int n] ∧ 0 ≤ n ∧ n ≤ 1000000000 ∧ Q = dA (.int (mixed c n))
theorem ok_mixed (T : Tb mg) (D : Dn K mg "_law_mixed" sMixed ["cell", "n"]) : Cal P w K mg base 1 "_law_mixed" ["cell", "n"] (spA RMixed) := by
  refine pure_cal D scMixed (fun ds Q h => ?_) fun f cdv A outer s H E hr ds Pb h => ?_
  · obtain ⟨c, n, rfl, _⟩ := h
    rfl
  · obtain ⟨c, n, rfl, h0, h1, rfl⟩ := h
    refine ⟨_, pss_cons (ps_asg (pe_op op_add (pe_op op_add (pe_op op_mod (w_int T.int (pa_cons (pe_op op_mul (pe_op op_mul (pv 0) (pe_op op_add pe_int (pe_op op_mul pe_int (pv 1)))) pe_int) pa_nil)) pe_int) (pe_op op_mul (pe_op op_mul pe_int (pv 1)) (pv 1))) (pe_op op_mul pe_int (pv 1))) (pg_one 2 scMixed.nd))
      (pss_one (ps_ret (pe_op op_fdiv (pe_op op_mod (w_int T.int (pa_cons (pe_op op_mul (pv 2) pe_int) pa_nil)) pe_int) pe_int))), ?_⟩
    refine rt_seq (nx_asg (P := dA (.int ((c * (1 + 2 * n) * 48271) % 2147483647 + 7919 * n * n + 104729 * n))) (ed_opI (ed_opI (ed_opC (g := fun i j => i % j) (ed_int1 (ea_cons (ed_opC (g := fun i j => i * j) (ed_opC (g := fun i j => i * j) (ed_var rfl) (ed_opI ed_int (ed_opC (g := fun i j => i * j) ed_int (ed_var rfl) (.inl ⟨by decide, by decide⟩))) (.inr ⟨by omega, by omega⟩)) ed_int (.inr ⟨by decide, by decide⟩)) ea_nil)) ed_int (by decide))
      (ed_opC (g := fun i j => i * j) (ed_opC (g := fun i j => i * j) ed_int (ed_var rfl) (.inl ⟨by decide, by decide⟩)) (ed_var rfl) (.inr ⟨by omega, by omega⟩))) (ed_opC (g := fun i j => i * j) ed_int (ed_var rfl) (.inl ⟨by decide, by decide⟩)))) ?_
    exact rt_ret (ed_opC (g := fun i j => i / j) (ed_opC (g := fun i j => i % j) (ed_int1 (ea_cons (ed_opC (g := fun i j => i * j) (ed_var rfl) ed_int (.inr ⟨by decide, by decide⟩)) ea_nil)) ed_int (by decide)) ed_int ⟨by decide, by decide⟩)

/-! _law_folded -/
theorem dq_ints {H : Hp} : ∀ cs : List Int, DqAll H (cs.map PyData.int) (cs.map V.int)
  | [] => rfl
  | c :: cs => ⟨_, _, rfl, rfl, dq_ints cs⟩
def aScr (K : PySem.W.Frag) (B : Hp) (a : Addr) (ns : List Int) : Ab := ⟨fun v H => v = .ref a ∧ SqL K B a (ns.map V.int) ∧ Same B H, fun _ _ _ e h => ⟨h.1, h.2.1, h.2.2.trans e⟩⟩
theorem ixN_k {n j : Nat} (h : j < n) : ixN n (j : Int) = some j := by
  unfold ixN
  rw [if_pos (by omega), if_pos (by omega)]
  simp
theorem val_rangeF {H : Hp} {lo : Int} {n : Nat} : Val (Itr lo n) ((List.range n).map fun i => PyData.int (lo + (i : Nat))) H := by
  refine ⟨fun i hi => ?_, ?_, fun i x H' hi ⟨e, y⟩ => ?_⟩
  · show i < n
    simpa using hi
  · show n ≤ _
    simp
  · subst e
    have hi' : i < n := by simpa using hi
    exact ⟨Same.refl _, PyData.int (lo + (i : Nat)), by simp [List.getElem?_map, List.getElem?_range hi'], y⟩
theorem srcP_enumS {p a : Addr} {B : Hp} {S : Sto} {ns : List Int} (h : S[0]? = some (some (aScr K B a ns))) (hp : B p = none) : SrcP p (iEnum K (tCons (tVar 0) tNil)) S (ns.zipIdx.map fun q => .tuple [eN q.2, .int q.1]) := fun σ H R o hl hh hpo ho k => by
  obtain ⟨v, hv, rfl, hS, e⟩ := hh 0 _ h
  refine ⟨_, hv, a, ns.map V.int, rfl, e.seq hS, k _ H (Same.refl H) fun H' e' => ?_⟩
  have hS' : SqL K H' a (ns.map V.int) := ((same_cut e hp).trans e').seq hS
  refine ⟨fun i hi => ?_, ⟨_, hS', by simp⟩, fun i x H2 hi y => ?_⟩
  · have hi' : i < (ns.map V.int).length := by simpa using hi
    exact ⟨_, _, hS', List.getElem?_eq_getElem hi'⟩
  · obtain ⟨T, x1, rfl, hT, rfl, q⟩ := y
    have hx := q _ hS'
    have hi' : i < ns.length := by simpa using hi
    rw [List.getElem?_map, List.getElem?_eq_getElem hi'] at hx
    cases hx
    exact ⟨Same.new hT, .tuple [eN i, .int ns[i]], by simp [hi'], T, _, rfl, upd_same, .cons rfl (.one rfl)⟩
def IntsAt (p : Addr) (k : Nat) (H : Hp) : Prop := ∃ cs : List Int, cs.length = k ∧ H p = some (.lst (cs.map V.int))
theorem IntsAt.mono {p : Addr} {k : Nat} {H H' : Hp} (e : Same H H') (h : IntsAt p k H) : IntsAt p k H' := let ⟨cs, h1, h2⟩ := h; ⟨cs, h1, e _ _ h2⟩
theorem IntsAt.set {p : Addr} {k : Nat} {H : Hp} {cs : List Int} (h : cs.length = k) (j : Nat) (r : Int) : IntsAt p k (upd H p (.lst ((cs.map V.int).set j (V.int r)))) := ⟨cs.set j r, by simpa using h, by rw [upd_same, List.map_set]⟩
theorem at_int {cs : List Int} {j : Nat} (h : j < cs.length) : atI (cs.map PyData.int) (j : Int) = some (.int (cs.getD j 0)) := atI_nat (by rw [List.getElem?_map, List.getElem?_eq_getElem h, List.getD_eq_getElem?_getD, List.getElem?_eq_getElem h]; rfl)
abbrev sFolded : Stmt := top 47
theorem scFolded : FnScope ["script", "found", "n", "cell"] ["script"] (defScope sFolded) := ⟨rfl, rfl, rfl, by decide +kernel, rfl, by decide +kernel, by decide +kernel⟩
def spFold (K : PySem.W.Frag) : Sp := fun vs H Q _ => ∃ (a : Addr) (ns : List Int), vs = [.ref a] ∧ SqL K H a (ns.map V.int) ∧ ns.length ≤ 1000000 ∧ ∀ p H', H p = none → Same H H' → IntsAt p 64 H' → Q (.ref p) H'
theorem ok_folded (T : Tb mg) (D : Dn K mg "_law_folded" sFolded ["script"]) : Cal P w K mg base 1 "_law_folded" ["script"] (spFold K) := by
  obtain ⟨f, fd, F, b, m⟩ := D
  refine ⟨f, fd, F.ok scFolded (fun vs H Q E h => ?_) (fun cdv A outer s H vs Q E hr h => ?_), F.kp, b, m⟩
  · obtain ⟨a, ns, rfl, _⟩ := h
    rfl
  · obtain ⟨a, ns, rfl, hS, hz, hrt⟩ := h
    refine ⟨_, pss_cons (ps_setLc (i := 1) (own := [("n", 2)]) (g := gName 2) (tt := tYes) rfl scFolded.nd rfl rfl rfl (pi_range1 (by rfl) T.range (pa_cons pe_int pa_nil)) (blkOk_by (by kernel_rfl)) (fun _ _ _ _ _ => pg_one 2 scFolded.nd) (fun _ _ _ _ _ => pts_nil) (fun _ _ _ _ _ => pe_op op_add pe_int (pv 2)))
      (pss_cons (ps_for PassesOwn.never rfl (pi_enum (by rfl) T.enum (pa_cons (pv 0) pa_nil)) (pg_two 2 3 rfl scFolded.nd) (pss_one (ps_asg (pe_op op_mod (w_int T.int (pa_cons (pe_op op_add (pe_op op_mul (w_ixL K (pv 1) (pe_op op_mod (w_int T.int (pa_cons (pv 2) pa_nil)) pe_int)) pe_int) (pv 3)) pa_nil)) pe_int)
          (pg_sub (pv 1) (pe_op op_mod (w_int T.int (pa_cons (pv 2) pa_nil)) pe_int) set_list))))
      (pss_cons (ps_for PassesOwn.never rfl (pi_range2 (by rfl) T.range (pa_cons pe_int (pa_cons pe_int pa_nil))) (pg_one 2 scFolded.nd) (pss_one (ps_asg (pe_op op_mod (w_int T.int (pa_cons (pe_op op_add (w_ixL K (pv 1) (pv 2)) (pe_op op_mul (w_ixL K (pv 1) (pe_op op_sub (pv 2) pe_int)) pe_int)) pa_nil)) pe_int)
          (pg_sub (pv 1) (pv 2) set_list))))
      (pss_one (ps_ret (pv 1))))), ?_⟩
    have l0 : (L2.start ["script", "found", "n", "cell"] [V.ref a]).length = 4 := rfl
    have h0 : Hold H [some (aScr K H a ns), none, none, none] (L2.start ["script", "found", "n", "cell"] [V.ref a]) := fun i P hi => by
      match i, hi with
      | 0, hi => cases hi; exact ⟨_, rfl, rfl, hS, Same.refl H⟩
      | 1, hi => cases hi
      | 2, hi => cases hi
      | 3, hi => cases hi
      | i + 4, hi => simp at hi
    refine go_new (by exact l0) h0 (ef_is (ef_lcA (js := [2]) (List.range 64) (fun i => .int (i : Nat)) (fun i => .int (17 + (i : Nat))) (fun i => [some (aScr K H a ns), none, some (dA (.int (i : Nat))), none]) (src_range (n := 64) ed_int (by decide)) (by decide) (by decide) (fun i _ => tg_name) (fun i _ => ed_opI ed_int (ed_var rfl)) (fun _ _ => rfl)) (es := ((List.range 64).map fun i => (17 + (i : Nat) : Int)).map PyData.int) (by rw [List.map_map]; rfl)) fun p xs H1 hp e1 hpl hpx => ?_
    have hxs := ints_of hpx
    subst hxs
    have hA1 : Hold H1 [some (aScr K H a ns), some (vA (.ref p)), none, none] ((L2.start ["script", "found", "n", "cell"] [V.ref a]).set 1 (some (.ref p))) := (h0.mono e1).set (j := 1) (P := vA (.ref p)) (v := .ref p) rfl (by rw [l0]; decide)
    have stab : Stb H [some (aScr K H a ns), some (vA (.ref p)), none, none] := .c (fun _ _ _ e h => ⟨h.1, h.2.1, e⟩) (.v (.no (.no .nil)))
    refine go_for (js := [2, 3]) (p := p) (B := H) (B1 := H) ns.zipIdx (fun q => .tuple [eN q.2, .int q.1]) (fun q => [some (aScr K H a ns), some (vA (.ref p)), some (dA (eN q.2)), some (dA (.int q.1))]) (fun _ => IntsAt p 64) stab (fun pre H' ⟨cs, _, q⟩ => ⟨_, q, fun ys z => by cases z⟩) (fun pre H' H2 e h => h.mono e)
      (srcP_enumS rfl hp) rfl hA1 (Same.refl _) e1 hp ⟨_, by simp, hpl⟩ (fun q _ => tg_pair) ?_ ?_
    · intro B2 pre q post σ' H' D' e hB2 hp2 hl' hh' hs' ⟨cs, hcs, hpc⟩ kk
      have hj : q.2 % 64 < cs.length := by omega
      have hh2 := hh'.slot (i := 1) (P' := dA (.list (cs.map PyData.int))) rfl (fun v hv => by
        have ev : v = V.ref p := hv
        rw [ev]
        exact ⟨p, _, rfl, hpc, dq_ints cs⟩)
      have eix : ∀ o0 o1, Ed (tOp (rI (fun _ j => 0 < j) fun i j => .int (i % j)) (tCB rInt1 (tCons (tVar 2) tNil)) (tC (.int 64))) [o0, o1, some (dA (eN q.2)), some (dA (.int q.1))] (.int ((q.2 % 64 : Nat) : Int)) := fun _ _ => ed_is (ed_opC (g := fun i j => i % j) (ed_int1 (i := (q.2 : Nat)) (ea_cons (ed_var rfl) ea_nil)) ed_int (by decide)) (by simp)
      refine (ed_opC (g := fun i j => i % j) (j := 2147483647) (ed_int1 (ea_cons (ed_opI (ed_opC (g := fun i j => i * j) (ed_ixL (ds := cs.map PyData.int) (d := .int (cs.getD (q.2 % 64) 0)) (ed_var rfl) (eix _ _) (at_int hj)) ed_int (.inr ⟨by decide, by decide⟩)) (ed_var rfl)) ea_nil)) ed_int (by decide) : Ed _ [some (aScr K H a ns), some (dA (.list (cs.map PyData.int))), some (dA (eN q.2)), some (dA (.int q.1))] _) σ' H' _ (by simpa using hl') hh2 fun v H2 e2 dv => ?_
      obtain ⟨v1, hv1, ev1⟩ := hh' 1 (vA (.ref p)) rfl
      cases ev1
      refine ⟨_, hv1, (eix _ _) σ' H2 _ (by simpa using hl') (hh2.mono e2) fun i H3 e3 di => ?_⟩
      cases dv
      cases di
      have hpc3 := e3 _ _ (e2 _ _ hpc)
      have s4 : ∀ o, Same B2 (upd H3 p o) := fun o => Same.mut ((hs'.trans e2).trans e3) hp2
      refine ⟨p, _, _, _, rfl, rfl, hpc3, ixN_k (by simpa using hj), kk σ' _ (by simpa using hl') (Hold.base stab (hh'.weak (.keep _ (.keep _ (.drop _ (.drop _ .nil))))) (hB2.trans (s4 _))) (s4 _) (IntsAt.set hcs _ _)⟩
    · intro σ1 H2 hl1 hh1 hs1 ⟨cs, hcs, hpc⟩
      refine go_for (js := [2]) (p := p) (B := H) (B1 := H) (List.range 63) (fun i => .int (1 + (i : Nat))) (fun i => [some (aScr K H a ns), some (vA (.ref p)), some (dA (.int (1 + (i : Nat)))), none]) (fun _ => IntsAt p 64) stab (fun pre H' ⟨cs, _, q⟩ => ⟨_, q, fun ys z => by cases z⟩) (fun pre H' H2 e h => h.mono e)
        (fun σ H R o hl hh hpo ho k => ⟨1, 64, rfl, by decide, k _ H (Same.refl H) fun H' _ => val_rangeF⟩) hl1 hh1 (Same.refl _) hs1 hp ⟨cs, hcs, hpc⟩ (fun q _ => tg_name) ?_ ?_
      · intro B2 pre q post σ' H' D' e hB2 hp2 hl' hh' hs' ⟨cs, hcs, hpc⟩ kk
        have hq : q < 63 := by
          have : q ∈ List.range 63 := by rw [e]; simp
          simpa using this
        have hh2 := hh'.slot (i := 1) (P' := dA (.list (cs.map PyData.int))) rfl (fun v hv => by
          have ev : v = V.ref p := hv
          rw [ev]
          exact ⟨p, _, rfl, hpc, dq_ints cs⟩)
        have e1' : (1 + (q : Nat) : Int) = ((q + 1 : Nat) : Int) := by omega
        refine (ed_opC (g := fun i j => i % j) (j := 2147483647) (ed_int1 (ea_cons (ed_opI (ed_ixL (ds := cs.map PyData.int) (d := .int (cs.getD (q + 1) 0)) (ed_var rfl) (ed_var rfl) (by rw [e1']; exact at_int (by omega))) (ed_opC (g := fun i j => i * j) (ed_ixL (ds := cs.map PyData.int) (d := .int (cs.getD q 0)) (ed_var rfl) (ed_opI (g := fun i j => i - j) (i := 1 + (q : Nat)) (j := 1) (ed_var rfl) ed_int)
          (by show atI _ (1 + ((q : Nat) : Int) - 1) = _; rw [show (1 + ((q : Nat) : Int) - 1) = ((q : Nat) : Int) by omega]; exact at_int (by omega))) ed_int (.inr ⟨by decide, by decide⟩))) ea_nil)) ed_int (by decide) : Ed _ [some (aScr K H a ns), some (dA (.list (cs.map PyData.int))), some (dA (.int (1 + (q : Nat)))), none] _) σ' H' _ (by simpa using hl') hh2 fun v H2 e2 dv => ?_
        obtain ⟨v1, hv1, ev1⟩ := hh' 1 (vA (.ref p)) rfl
        cases ev1
        obtain ⟨v2, hv2, ev2⟩ := hh' 2 (dA (.int (1 + (q : Nat)))) rfl
        cases ev2
        cases dv
        have hpc3 := e2 _ _ hpc
        have s4 : ∀ o, Same B2 (upd H2 p o) := fun o => Same.mut (hs'.trans e2) hp2
        refine ⟨_, hv1, _, hv2, p, _, _, _, rfl, rfl, hpc3, (by rw [e1']; exact ixN_k (by simp; omega)), kk σ' _ (by simpa using hl') (Hold.base stab (hh'.weak (.keep _ (.keep _ (.drop _ (.keep _ .nil))))) (hB2.trans (s4 _))) (s4 _) (IntsAt.set hcs _ _)⟩
      · intro σ2 H3 hl2 hh2 hs2 hI
        obtain ⟨v1, hv1, ev1⟩ := hh2 1 (vA (.ref p)) rfl
        cases ev1
        exact ⟨_, hv1, hrt p H3 hp hs2 hI⟩
end Rn
end
section
set_option maxHeartbeats 4000000
namespace Rn
open PySem L2 PyProof.Rows
variable {P : Program} {w : World} {K : PySem.W.Frag} {mg : Str → Option Value} {base : Heap}
section
variable {X : Cx} {k : Nat}
theorem w_dget {o i : Expr} {td ty : TE} {pos : Pos} (hr : Room k X.A) (ho : PE X o td) (hi : PE X i ty) (hs : NoSl i := by intro _ _; rfl) : PE X (.Subscript o i pos) (tDGet td ty) := pe_dget (by have := hr.units; omega) ho hi hs
theorem w_dput {o i value : Expr} {pos pos' : Pos} {td ty tv : TE} (hr : Room k X.A) (ho : PE X o td) (hi : PE X i ty) (hv : PE X value tv) (hs : swapsWith value (some (.Subscript o i pos')) pos.line X.env = pure false := by rfl) :
    PS X (.Assign [.Subscript o i pos'] value pos) (sDPut td ty tv) := ps_dput (by have := hr.units; omega) ho hi hv hs
end
def kCells : Key := .inr "cells"
def kGreat : Key := .inr "great"
def kSpot : Key := .inr "spot"
theorem putK_there {kvs : List (Key × V)} {k : Key} {y v : V} (h : valV kvs k = some v) : (putK kvs k y).length = kvs.length := by
  unfold putK
  rw [if_pos (by rw [valV_any, h]; rfl), List.length_map]
/-- the state of the draws: the spot, the cells, the great ones -/
def MP (m c g : Addr) (n : Nat) (H : Hp) : Prop := ∃ (kvs : List (Key × V)) (cs gs : List Int), H m = some (.dK kvs) ∧ valV kvs kCells = some (.ref c) ∧ valV kvs kGreat = some (.ref g) ∧ valV kvs kSpot = some (.int (n : Nat)) ∧ kvs.length ≤ 10 ∧
  H c = some (.lst (cs.map V.int)) ∧ cs.length = 64 ∧ H g = some (.lst (gs.map V.int)) ∧ gs.length ≤ 1000000 ∧ c ≠ g
def MG (m : Addr) (n : Nat) (H : Hp) : Prop := ∃ (c g : Addr) (kvs : List (Key × V)) (cs gs : List Int), H m = some (.dK kvs) ∧ valV kvs kCells = some (.ref c) ∧ valV kvs kGreat = some (.ref g) ∧ valV kvs kSpot = some (.int (n : Nat)) ∧ kvs.length ≤ 10 ∧
  H c = some (gl c (cs.map V.int)) ∧ cs.length = 64 ∧ H g = some (gl g (gs.map V.int)) ∧ gs.length ≤ 1000000 ∧ c ≠ g
theorem MG.oth {m : Addr} {n : Nat} {H : Hp} (h : MG m n H) : Oth H m := by
  obtain ⟨c, g, kvs, cs, gs, h1, _⟩ := h
  exact .dK h1
/-- the dict m as a local tells it -/
def aMp (m c g : Addr) (kvs : List (Key × V)) (cs gs : List Int) : Ab := ⟨fun v H => v = .ref m ∧ H m = some (.dK kvs) ∧ H c = some (.lst (cs.map V.int)) ∧ H g = some (.lst (gs.map V.int)), fun _ _ _ e h => ⟨h.1, e _ _ h.2.1, e _ _ h.2.2.1, e _ _ h.2.2.2⟩⟩
def aRefL (g : Addr) (gs : List Int) : Ab := ⟨fun v H => v = .ref g ∧ H g = some (.lst (gs.map V.int)), fun _ _ _ e h => ⟨h.1, e _ _ h.2⟩⟩
section
variable {S : Sto} {m c g : Addr} {kvs : List (Key × V)} {cs gs : List Int} {i : Nat}
theorem er_mget {x : Str} {v : V} (h : S[i]? = some (some (aMp m c g kvs cs gs))) (hv : valV kvs (.inr x) = some v) : Er (tDGet (tVar i) (tC (.str x))) S (vA v) := fun σ H Q hl hh k => by
  obtain ⟨u, hu, rfl, hm, _⟩ := hh i _ h
  exact ⟨_, hu, m, v, rfl, by rw [← hv]; exact DGet.k (k := .inr x) hm, k v H (Same.refl H) rfl⟩
theorem er_mgreat (h : S[i]? = some (some (aMp m c g kvs cs gs))) (hv : valV kvs kGreat = some (.ref g)) : Er (tDGet (tVar i) (tC (.str "great"))) S (aRefL g gs) := fun σ H Q hl hh k => by
  obtain ⟨u, hu, rfl, hm, _, hg⟩ := hh i _ h
  exact ⟨_, hu, m, .ref g, rfl, by rw [← hv]; exact DGet.k (k := kGreat) hm, k _ H (Same.refl H) ⟨rfl, hg⟩⟩
theorem er_mcells (h : S[i]? = some (some (aMp m c g kvs cs gs))) (hv : valV kvs kCells = some (.ref c)) : Er (tDGet (tVar i) (tC (.str "cells"))) S (aRefL c cs) := fun σ H Q hl hh k => by
  obtain ⟨u, hu, rfl, hm, hg, _⟩ := hh i _ h
  exact ⟨_, hu, m, .ref c, rfl, by rw [← hv]; exact DGet.k (k := kCells) hm, k _ H (Same.refl H) ⟨rfl, hg⟩⟩
theorem ed_refL {te : TE} (h : Er te S (aRefL g gs)) : Ed te S (.list (gs.map PyData.int)) := fun σ H Q hl hh k => h σ H _ hl hh fun v H1 e1 ⟨h1, h2⟩ => k v H1 e1 ⟨g, _, h1, h2, dq_ints gs⟩
theorem ed_vint {te : TE} {i : Int} (h : Er te S (vA (.int i))) : Ed te S (.int i) := fun σ H Q hl hh k => h σ H _ hl hh fun v H1 e1 hv => k v H1 e1 hv
end
theorem ed_nilL {S : Sto} : Ed (tLst tNil) S (.list []) := ed_lst ea_nil (by decide)
theorem ed_notNil' {S : Sto} {ta tb : TE} {l : List Int} (ha : Ed ta S (.list (l.map PyData.int))) (hb : Ed tb S (.list [])) : Et (tTest (tOp (rNeD K) ta tb)) S (!l.isEmpty) := et_test (ed_notNil ha hb (fun _ => rfl) (fun _ => Nat.zero_le _))
abbrev sDraw : Stmt := top 48
theorem scDraw : FnScope ["m", "limit", "n", "lot", "here", "cell"] ["m", "limit"] (defScope sDraw) := ⟨rfl, rfl, rfl, by decide +kernel, rfl, by decide +kernel, by decide +kernel⟩
def spDraw0 : Sp := fun vs H Q _ => ∃ (m c g : Addr) (n lim : Nat), vs = [.ref m, .int (lim : Nat)] ∧ MP m c g n H ∧ 1 ≤ lim ∧ lim ≤ 1000000 ∧ n ≤ 1000000 ∧
  ∀ (r : Nat) H', r < lim → MP m c g (n + 1) H' → (∀ b u, b ≠ m → b ≠ g → H b = some u → H' b = some u) → Q (.int (r : Nat)) H'
theorem nat_mod {a : Int} {l : Nat} (h : 1 ≤ l) : ∃ r : Nat, r < l ∧ a % (l : Nat) = (r : Nat) := ⟨(a % (l : Nat)).toNat, by
  have h1 := Int.emod_nonneg a (b := ((l : Nat) : Int)) (by omega)
  have h2 := Int.emod_lt_of_pos a (b := ((l : Nat) : Int)) (by omega)
  omega, by
  have h1 := Int.emod_nonneg a (b := ((l : Nat) : Int)) (by omega)
  omega⟩
theorem ok_draw0 (T : Tb mg) (D : Dn K mg "_law_draw" sDraw ["m", "limit"]) (W : Cal P w K mg base 1 "_law_mixed" ["cell", "n"] (spA RMixed)) : Cal P w K mg base 2 "_law_draw" ["m", "limit"] spDraw0 := by
  obtain ⟨f, fd, F, b, mm⟩ := D
  refine ⟨f, fd, F.ok scDraw (fun vs H Q E h => ?_) (fun cdv A outer s H0 vs Q E hr h => ?_), F.kp, b, mm⟩
  · obtain ⟨m, c, g, n, lim, rfl, _⟩ := h
    rfl
  · obtain ⟨m, c, g, n, lim, rfl, ⟨kvs, cs, gs, hm, hc, hg, hs, hk, hC, hC64, hG, hGz, hcg⟩, hl1, hl2, hn, hrt⟩ := h
    refine ⟨_, pss_cons (ps_asg (w_dget hr (pv 0) pe_str) (pg_one 2 scDraw.nd)) (pss_cons (w_dput hr (pv 0) pe_str (pe_op op_add (pv 2) pe_int))
      (pss_cons (ps_if (pt_cmpR (w_neD K hr) (w_dget hr (pv 0) pe_str) (pe_lst pa_nil) (nomark _))
        (pss_cons (ps_asg (w_dget hr (pv 0) pe_str) (pg_one 3 scDraw.nd)) (pss_cons (ps_asg (pe_op op_mod (w_int T.int (pa_cons (pv 2) pa_nil)) (w_len K T.len (pa_cons (pv 3) pa_nil))) (pg_one 4 scDraw.nd))
          (pss_cons (ps_asg (w_ixL K (pv 3) (pv 4)) (pg_one 5 scDraw.nd)) (pss_one (ps_if (pt_cmpR op_gt (pv 5) pe_int (nomark _))
            (pss_cons (ps_asg (pe_op op_fdiv (pv 5) (pv 1)) (pg_sub (pv 3) (pv 4) set_list)) (pss_one (ps_ret (pe_op op_mod (w_int T.int (pa_cons (pv 5) pa_nil)) (pv 1))))) pss_nil))))) pss_nil)
      (pss_cons (ps_asg (w_dget hr (pv 0) pe_str) (pg_one 3 scDraw.nd))
      (pss_one (ps_ret (pe_op op_mod (w_int T.int (pa_cons (pe_cal W hr (pa_cons (pe_cal W hr (pa_cons (pe_op op_add (w_ixL K (pv 3) (pe_op op_mod (w_int T.int (pa_cons (pv 2) pa_nil)) pe_int)) (pe_op op_mul pe_int (pe_op op_fdiv (pv 2) pe_int))) (pa_cons (pv 2) pa_nil))) (pa_cons (pe_op op_add (pv 2) pe_int) pa_nil))) pa_nil)) (pv 1))))))), ?_⟩
    have l0 : (L2.start ["m", "limit", "n", "lot", "here", "cell"] [V.ref m, V.int (lim : Nat)]).length = 6 := rfl
    have h0 : Hold H0 [some (aMp m c g kvs cs gs), some (dA (eN lim)), none, none, none, none] (L2.start ["m", "limit", "n", "lot", "here", "cell"] [V.ref m, V.int (lim : Nat)]) := fun i P hi => by
      match i, hi with
      | 0, hi => cases hi; exact ⟨_, rfl, rfl, hm, hC, hG⟩
      | 1, hi => cases hi; exact ⟨_, rfl, rfl⟩
      | 2, hi => cases hi
      | 3, hi => cases hi
      | 4, hi => cases hi
      | 5, hi => cases hi
      | i + 6, hi => simp at hi
    refine go_nx (by exact l0) h0 (nx_asg (P := dA (eN n)) (ed_vint (er_mget rfl hs))) fun σ1 H1 l1 e1 g1 => ?_
    -- m['spot'] = n + 1
    have ncm : c ≠ m := fun q => by rw [q, hm] at hC; cases hC
    have ngm : g ≠ m := fun q => by rw [q, hm] at hG; cases hG
    refine (ed_opI (ed_var rfl) ed_int : Ed _ [some (aMp m c g kvs cs gs), some (dA (eN lim)), some (dA (eN n)), none, none, none] (.int ((n : Nat) + 1))) σ1 H1 _ l1 g1 fun y H2 e2 dy => ?_
    cases dy
    obtain ⟨v0, hv0, ev0, hm1, hC1, hG1⟩ := g1 0 (aMp m c g kvs cs gs) rfl
    subst ev0
    have hm2 := e2 _ _ hm1
    have hC2 := e2 _ _ hC1
    have hG2 := e2 _ _ hG1
    have hk' : (putK kvs kSpot (V.int ((n : Nat) + 1))).length ≤ 10 := by rw [putK_there hs]; exact hk
    refine ⟨_, hv0, m, _, rfl, DPut.k (k := kSpot) hm2 (szl' (by omega)), ?_⟩
    generalize hkv : putK kvs kSpot (V.int ((n : Nat) + 1)) = kvs' at hk'
    have vc : valV kvs' kCells = some (.ref c) := by rw [← hkv, valV_put, if_neg (by decide)]; exact hc
    have vg : valV kvs' kGreat = some (.ref g) := by rw [← hkv, valV_put, if_neg (by decide)]; exact hg
    have vs' : valV kvs' kSpot = some (.int ((n + 1 : Nat) : Int)) := by rw [← hkv, valV_put, if_pos rfl]; rfl
    generalize hH3 : upd H2 m (.dK kvs') = H3
    have hm3 : H3 m = some (.dK kvs') := by rw [← hH3]; exact upd_same
    have hC3 : H3 c = some (.lst (cs.map V.int)) := by rw [← hH3, upd_ne ncm]; exact hC2
    have hG3 : H3 g = some (.lst (gs.map V.int)) := by rw [← hH3, upd_ne ngm]; exact hG2
    have fr3 : ∀ b u, b ≠ m → H0 b = some u → H3 b = some u := fun b u hb h => by rw [← hH3, upd_ne hb]; exact e2 _ _ (e1 _ _ h)
    have g3 : Hold H3 [some (aMp m c g kvs' cs gs), some (dA (eN lim)), some (dA (eN n)), none, none, none] σ1 := fun i P hi => by
      match i, hi with
      | 0, hi => cases hi; exact ⟨_, hv0, rfl, hm3, hC3, hG3⟩
      | 1, hi => cases hi; exact g1 1 (dA (eN lim)) rfl
      | 2, hi => cases hi; exact g1 2 (dA (eN n)) rfl
      | 3, hi => cases hi
      | 4, hi => cases hi
      | 5, hi => cases hi
      | i + 6, hi => simp at hi
    -- the last two statements
    have fin : ∀ (D : Ends) (σ : L2.St) (H : Hp), (∀ r : Nat, ∀ H', r < lim → Same H H' → D.rt (.int (r : Nat)) H') → σ.length = 6 → Hold H [some (aMp m c g kvs' cs gs), some (dA (eN lim)), some (dA (eN n)), none, none, none] σ →
        tSeq (tAsg (tDGet (tVar 0) (tC (.str "cells"))) (gName 3)) (tRet (tOp (rI (fun _ j => 0 < j) fun i j => .int (i % j)) (tCB rInt1 (tCons (tCall (spA RMixed) [] E0 (tCons (tCall (spA RMixed) [] E0 (tCons (tOp (rI0 fun i j => .int (i + j)) (tOp (rIxL K) (tVar 3) (tOp (rI (fun _ j => 0 < j) fun i j => .int (i % j)) (tCB rInt1 (tCons (tVar 2) tNil)) (tC (.int 64))))
          (tOp (rI CMul fun i j => .int (i * j)) (tC (.int 31)) (tOp (rI CDiv fun i j => .int (i / j)) (tVar 2) (tC (.int 64))))) (tCons (tVar 2) tNil))) (tCons (tOp (rI0 fun i j => .int (i + j)) (tVar 2) (tC (.int 7))) tNil))) tNil)) (tVar 1))) D σ H := fun D σ H hd hl hh => by
      refine go_nx (by exact hl) hh (nx_asg (i := 3) (P := aRefL c cs) (er_mcells rfl vc)) fun σ4 H4 l4 e4 g4 => ?_
      have hj : n % 64 < cs.length := by omega
      obtain ⟨r, hr1, hr2⟩ := nat_mod (a := mixed (mixed (cs.getD (n % 64) 0 + 31 * (((n : Nat) : Int) / 64)) (n : Nat)) ((n : Nat) + 7)) hl1
      refine go_ret l4 g4 (ed_is (ed_opC (g := fun i j => i % j) (j := (lim : Nat)) (ed_int1 (ea_cons (er_call (P := dA (.int (mixed (mixed (cs.getD (n % 64) 0 + 31 * (((n : Nat) : Int) / 64)) (n : Nat)) ((n : Nat) + 7)))) (ea_cons (d := .int (mixed (cs.getD (n % 64) 0 + 31 * (((n : Nat) : Int) / 64)) (n : Nat))) (er_call (ea_cons (ed_opI (ed_ixL (ds := cs.map PyData.int) (d := .int (cs.getD (n % 64) 0)) (i := ((n % 64 : Nat) : Int)) (ed_refL (ed_var rfl)) (ed_is (ed_opC (g := fun i j => i % j) (ed_int1 (i := (n : Nat)) (ea_cons (ed_var rfl) ea_nil)) ed_int (by decide)) (by simp)) (at_int hj))
          (ed_opC (g := fun i j => i * j) ed_int (ed_opC (g := fun i j => i / j) (i := (n : Nat)) (ed_var rfl) ed_int ⟨by decide, by decide⟩) (.inl ⟨by decide, by decide⟩))) (ea_cons (ed_var rfl) ea_nil)) ⟨_, (n : Nat), rfl, by omega, by omega, rfl⟩) (ea_cons (ed_opI (i := (n : Nat)) (ed_var rfl) ed_int) ea_nil)) ⟨_, _, rfl, by omega, by omega, rfl⟩) ea_nil)) (ed_var rfl) (show (0 : Int) < ((lim : Nat) : Int) by omega)) (by rw [hr2])) fun v H5 e5 dv => ?_
      cases dv
      exact hd r H5 hr1 (e4.trans e5)
    have mp : ∀ H', Same H3 H' → MP m c g (n + 1) H' := fun H' e => ⟨kvs', cs, gs, e _ _ hm3, vc, vg, vs', hk', e _ _ hC3, hC64, e _ _ hG3, hGz, hcg⟩
    have fin' : ∀ (σ : L2.St) (H : Hp), Same H3 H → σ.length = 6 → Hold H [some (aMp m c g kvs' cs gs), some (dA (eN lim)), some (dA (eN n)), none, none, none] σ → _ := fun σ H e hl hh => fin { nx := fun _ H' => Q .non H', rt := Q } σ H (fun r H' hr e' => hrt r H' hr (mp H' (e.trans e')) fun b u hb hb2 h => (e.trans e') _ _ (fr3 b u hb h)) hl hh
    refine go_ifs (by exact l1) g3 (ed_notNil' (ed_refL (er_mgreat rfl vg)) ed_nilL) (fun hb H4 e4 => ?_) (fun hb H4 e4 => fin' σ1 H4 e4 (by simpa using l1) (g3.mono e4))
    have hge : 1 ≤ gs.length := by
      cases gs with
      | nil => simp at hb
      | cons a t => simp
    obtain ⟨j, hj, hje⟩ := nat_mod (a := ((n : Nat) : Int)) hge
    refine go_nx (by exact l1) (g3.mono e4) (nx_asg (i := 3) (P := aRefL g gs) (er_mgreat rfl vg)) fun σ5 H5 l5 e5 g5 => ?_
    refine go_nx l5 g5 (nx_asg (i := 4) (P := dA (eN j)) (ed_is (ed_opC (g := fun i j => i % j) (ed_int1 (i := (n : Nat)) (ea_cons (ed_var rfl) ea_nil)) (ed_lenL (ds := gs.map PyData.int) (ea_cons (ed_refL (ed_var rfl)) ea_nil)) (by simp; omega)) (by rw [List.length_map, hje]; rfl))) fun σ6 H6 l6 e6 g6 => ?_
    refine go_nx l6 g6 (nx_asg (i := 5) (P := dA (.int (gs.getD j 0))) (ed_ixL (ds := gs.map PyData.int) (i := (j : Nat)) (ed_refL (ed_var rfl)) (ed_var rfl) (at_int hj))) fun σ7 H7 l7 e7 g7 => ?_
    have e37 : Same H3 H7 := ((e4.trans e5).trans e6).trans e7
    refine go_if l7 g7 (et_test (ed_opB (i := gs.getD j 0) (ed_var rfl) ed_int)) (fun hb2 H8 e8 => ?_) (fun hb2 H8 e8 => fin' σ7 H8 (e37.trans e8) (by simpa using l7) ((g7.mono e8).weak (.keep _ (.keep _ (.keep _ (.drop _ (.drop _ (.drop _ .nil))))))))
    refine (ed_opC (g := fun i j => i / j) (i := gs.getD j 0) (j := (lim : Nat)) (ed_var rfl) (ed_var rfl) ⟨by omega, by omega⟩ : Ed _ [some (aMp m c g kvs' cs gs), some (dA (eN lim)), some (dA (eN n)), some (aRefL g gs), some (dA (eN j)), some (dA (.int (gs.getD j 0)))] _) σ7 H8 _ l7 (g7.mono e8) fun v H9 e9 dv => ?_
    cases dv
    obtain ⟨v3, hv3, ev3, _⟩ := g7 3 (aRefL g gs) rfl
    subst ev3
    obtain ⟨v4, hv4, ev4⟩ := g7 4 (dA (eN j)) rfl
    cases ev4
    have e39 : Same H3 H9 := (e37.trans e8).trans e9
    have last : ∀ (D : Ends) (q : Int), D.rt = Q → tRet (tOp (rI (fun _ j => 0 < j) fun i j => .int (i % j)) (tCB rInt1 (tCons (tVar 5) tNil)) (tVar 1)) D σ7 (upd H9 g (.lst ((gs.map V.int).set j (V.int q)))) := fun D q hD => by
      generalize hH10 : upd H9 g (.lst ((gs.map V.int).set j (V.int q))) = H10
      have g10 : Hold H10 [none, some (dA (eN lim)), none, none, none, some (dA (.int (gs.getD j 0)))] σ7 := fun i P hi => by
        match i, hi with
        | 0, hi => cases hi
        | 1, hi => cases hi; exact g7 1 (dA (eN lim)) rfl
        | 2, hi => cases hi
        | 3, hi => cases hi
        | 4, hi => cases hi
        | 5, hi => cases hi; exact g7 5 (dA (.int (gs.getD j 0))) rfl
        | i + 6, hi => simp at hi
      obtain ⟨r, hr1, hr2⟩ := nat_mod (a := gs.getD j 0) hl1
      refine go_ret (by simpa using l7) g10 (ed_is (ed_opC (g := fun i j => i % j) (i := gs.getD j 0) (j := (lim : Nat)) (ed_int1 (ea_cons (ed_var rfl) ea_nil)) (ed_var rfl) (show (0 : Int) < ((lim : Nat) : Int) by omega)) (by rw [hr2])) fun v H11 e11 dv => ?_
      cases dv
      rw [hD]
      refine hrt r H11 hr1 ⟨kvs', cs, gs.set j q, e11 _ _ ?_, vc, vg, vs', hk', e11 _ _ ?_, hC64, e11 _ _ ?_, by simpa using hGz, hcg⟩ fun b u hb hb2 h => e11 _ _ ?_
      · rw [← hH10, upd_ne (Ne.symm ngm)]; exact e39 _ _ hm3
      · rw [← hH10, upd_ne hcg]; exact e39 _ _ hC3
      · rw [← hH10, upd_same, List.map_set]
      · rw [← hH10, upd_ne hb2]; exact e39 _ _ (fr3 b u hb h)
    exact ⟨_, hv3, _, hv4, g, _, _, _, rfl, rfl, e39 _ _ hG3, ixN_k (by simpa using hj), last _ _ rfl⟩
/-- the draw, the two lists hidden -/
def spDraw : Sp := fun vs H Q _ => ∃ (m : Addr) (n lim : Nat), vs = [.ref m, .int (lim : Nat)] ∧ MG m n H ∧ 1 ≤ lim ∧ lim ≤ 1000000 ∧ n ≤ 1000000 ∧ ∀ (r : Nat) H', r < lim → MG m (n + 1) H' → Fx [m] H H' → Q (.int (r : Nat)) H'
theorem ok_draw (T : Tb mg) (D : Dn K mg "_law_draw" sDraw ["m", "limit"]) (W : Cal P w K mg base 1 "_law_mixed" ["cell", "n"] (spA RMixed)) : Cal P w K mg base 2 "_law_draw" ["m", "limit"] spDraw := (ok_draw0 T D W).ghost fun vs H Q E h => by
  obtain ⟨m, n, lim, rfl, ⟨c, g, kvs, cs, gs, hm, hc, hg, hs, hk, hC, hC64, hG, hGz, hcg⟩, h1, h2, h3, k⟩ := h
  have ncm : c ≠ m := fun q => by rw [q, hm] at hC; cases hC
  have ngm : g ≠ m := fun q => by rw [q, hm] at hG; cases hG
  refine ⟨upd (upd H c (.lst (cs.map V.int))) g (.lst (gs.map V.int)), (rg_show hC).trans (rg_show (by rw [upd_ne (Ne.symm hcg)]; exact hG)), m, c, g, n, lim, rfl, ⟨kvs, cs, gs, by rw [upd_ne (Ne.symm ngm), upd_ne (Ne.symm ncm)]; exact hm, hc, hg, hs, hk, by rw [upd_ne hcg, upd_same], hC64, upd_same, hGz, hcg⟩, h1, h2, h3, fun r H' hr mp fr => ?_⟩
  obtain ⟨kvs', cs', gs', hm', hc', hg', hs', hk', hC', hC64', hG', hGz', _⟩ := mp
  refine ⟨upd (upd H' c (gl c (cs'.map V.int))) g (gl g (gs'.map V.int)), (rg_hide hC').trans (rg_hide (by rw [upd_ne (Ne.symm hcg)]; exact hG')), k r _ hr ⟨c, g, kvs', cs', gs', by rw [upd_ne (Ne.symm ngm), upd_ne (Ne.symm ncm)]; exact hm', hc', hg', hs', hk', by rw [upd_ne hcg, upd_same], hC64', upd_same, hGz', hcg⟩ fun b u hb hu hb2 => ?_⟩
  have nbc : b ≠ c := fun q => by rw [q, hC] at hb2; exact hu _ (Option.some.inj hb2).symm
  have nbg : b ≠ g := fun q => by rw [q, hG] at hb2; exact hu _ (Option.some.inj hb2).symm
  have nbm : b ≠ m := fun q => hb (by simp [q])
  rw [upd_ne nbg, upd_ne nbc]
  exact fr b u nbm nbg (by rw [upd_ne nbg, upd_ne nbc]; exact hb2)
end Rn
end
section
set_option maxHeartbeats 4000000
namespace Rn
open PySem L2 PyProof.Rows
variable {P : Program} {w : World} {K : PySem.W.Frag} {mg : Str → Option Value} {base : Heap}
theorem MP.same {m c g : Addr} {n : Nat} {H H' : Hp} (e : Same H H') (h : MP m c g n H) : MP m c g n H' := by
  obtain ⟨kvs, cs, gs, h1, h2, h3, h4, h5, h6, h7, h8, h9, h10⟩ := h
  exact ⟨kvs, cs, gs, e _ _ h1, h2, h3, h4, h5, e _ _ h6, h7, e _ _ h8, h9, h10⟩
theorem MG.same {m : Addr} {n : Nat} {H H' : Hp} (e : Same H H') (h : MG m n H) : MG m n H' := by
  obtain ⟨c, g, kvs, cs, gs, h1, h2, h3, h4, h5, h6, h7, h8, h9, h10⟩ := h
  exact ⟨c, g, kvs, cs, gs, e _ _ h1, h2, h3, h4, h5, e _ _ h6, h7, e _ _ h8, h9, h10⟩
/-- where another thing than the draws' own changes -/
theorem MG.upd {m p : Addr} {n : Nat} {H : Hp} {o o' : HO} (h : MG m n H) (hp : H p = some o) (ho : (∀ kvs, o ≠ .dK kvs) ∨ p ≠ m) (ho2 : ∀ φ, o ≠ .ext φ) : MG m n (upd H p o') := by
  obtain ⟨c, g, kvs, cs, gs, h1, h2, h3, h4, h5, h6, h7, h8, h9, h10⟩ := h
  have n1 : m ≠ p := fun q => by
    rcases ho with ho | ho
    · rw [← q, h1] at hp; exact ho _ (Option.some.inj hp).symm
    · exact ho q.symm
  have n2 : c ≠ p := fun q => by rw [← q, h6] at hp; exact ho2 _ (Option.some.inj hp).symm
  have n3 : g ≠ p := fun q => by rw [← q, h8] at hp; exact ho2 _ (Option.some.inj hp).symm
  exact ⟨c, g, kvs, cs, gs, by rw [upd_ne n1]; exact h1, h2, h3, h4, h5, by rw [upd_ne n2]; exact h6, h7, by rw [upd_ne n3]; exact h8, h9, h10⟩

/-! unfolding, one step -/
section
variable {te ta tb : TE} {tt : TT} {u : TS} {D : Ends} {σ : L2.St} {H : Hp} {Q : VK} {r : R2} {x y : L2.V} {i : Nat}
theorem u_opC (h : tb σ H fun y H2 => r x y H2 Q) : tOp r (tC x) tb σ H Q := h
theorem u_opR (h : ta σ H fun x H1 => r x y H1 Q) : tOp r ta (tC y) σ H Q := h
theorem u_op (h : ta σ H fun x H1 => tb σ H1 fun y H2 => r x y H2 Q) : tOp r ta tb σ H Q := h
theorem u_asg (h : te σ H fun x H1 => u D (σ.set i (some x)) H1) : tSeq (tAsg te (gName i)) u D σ H := h
theorem u_ret (h : te σ H D.rt) : tRet te D σ H := h
theorem u_test {Q : Bool → Hp → Prop} (h : te σ H fun x H1 => ∃ k, x = .bl k ∧ Q k H1) : tTest te σ H Q := h
theorem u_if (h : tt σ H fun b H1 => if b = true then ta σ H1 Q else tb σ H1 Q) : tIf tt ta tb σ H Q := h
theorem u_cb {r : List V → Hp → VK → Prop} {t : TA} (h : t σ H fun vs H1 => r vs H1 Q) : tCB r t σ H Q := h
theorem u_call {sp : Sp} {t : TA} (h : t σ H fun vs H1 => sp vs H1 Q E0) : tCall sp [] E0 t σ H Q := by
  have e : (fun (vs : List V) H1 => sp vs H1 Q E0) = fun vs H1 => sp (vs ++ []) H1 Q E0 := by funext vs H1; rw [List.append_nil]
  show t σ H fun vs H1 => sp (vs ++ []) H1 Q E0
  rw [← e]
  exact h
theorem u_cons {te : TE} {t : TA} {Q : List V → Hp → Prop} (h : te σ H fun v H1 => t σ H1 fun vs H2 => Q (v :: vs) H2) : tCons te t σ H Q := h
theorem u_nil {Q : List V → Hp → Prop} (h : Q [] H) : tNil σ H Q := h
theorem u_var (h : σ[i]? = some (some x)) (q : Q x H) : tVar i σ H Q := ⟨x, h, q⟩
end
theorem go_dputN {td ty tv : TE} {u : TS} {D : Ends} {σ : L2.St} {H : Hp} {S : Sto} {ds : List PyData} (hl : σ.length = S.length) (hh : Hold H S σ) (h : Ef tv S ds) (k : ∀ p xs H', H p = none → Same H H' → H' p = some (.lst xs) → DqAll H' ds xs → td σ H' fun x H2 => ty σ H2 fun y H3 => ∃ a H4, x = .ref a ∧ DPut H3 a y (.ref p) H4 ∧ u D σ H4) :
    tSeq (sDPut td ty tv) u D σ H := h σ H _ hl hh k
theorem go_dput {td ty tv : TE} {u : TS} {D : Ends} {σ : L2.St} {H : Hp} {S : Sto} {P : Ab} (hl : σ.length = S.length) (hh : Hold H S σ) (h : Er tv S P) (k : ∀ v H', Same H H' → P.p v H' → td σ H' fun x H2 => ty σ H2 fun y H3 => ∃ a H4, x = .ref a ∧ DPut H3 a y v H4 ∧ u D σ H4) :
    tSeq (sDPut td ty tv) u D σ H := h σ H _ hl hh k
/-- a draw: m in the slot 0 -/
theorem go_draw {te : TE} {σ : L2.St} {H : Hp} {Q : VK} {S : Sto} {m : Addr} {n lim : Nat} (hl : σ.length = S.length) (hh : Hold H S σ) (hm : σ[0]? = some (some (L2.V.ref m))) (mg : MG m n H) (h : Ed te S (.int (lim : Nat))) (h1 : 1 ≤ lim) (h2 : lim ≤ 1000000) (h3 : n ≤ 1000000)
    (k : ∀ (r : Nat) H', r < lim → MG m (n + 1) H' → Fx [m] H H' → Q (.int (r : Nat)) H') : tCall spDraw [] E0 (tCons (tVar 0) (tCons te tNil)) σ H Q := by
  refine u_call (u_cons (u_var hm (u_cons (h σ H _ hl hh fun v H1 e1 dv => u_nil ?_))))
  cases dv
  exact ⟨m, n, lim, rfl, mg.same e1, h1, h2, h3, fun r H' hr mg' fx => k r H' hr mg' ((Fx.of_same e1).trans fx)⟩

/-! _law_of -/
abbrev sOf : Stmt := top 51
theorem scOf : FnScope ["m", "some"] ["m", "some"] (defScope sOf) := ⟨rfl, rfl, rfl, by decide +kernel, rfl, by decide +kernel, by decide +kernel⟩
def spOf : Sp := fun vs H Q _ => ∃ (m : Addr) (n : Nat) (ds : List PyData) (v : V), vs = [.ref m, v] ∧ Dq H (.list ds) v ∧ ds ≠ [] ∧ ds.length ≤ 1000000 ∧ MG m n H ∧ n ≤ 1000000 ∧
  ∀ (i : Nat) (d : PyData) v H', ds[i]? = some d → Dq H' d v → MG m (n + 1) H' → Fx [m] H H' → Q v H'
theorem ok_of (T : Tb mg) (D : Dn K mg "_law_of" sOf ["m", "some"]) (W : Cal P w K mg base 2 "_law_draw" ["m", "limit"] spDraw) : Cal P w K mg base 3 "_law_of" ["m", "some"] spOf := by
  obtain ⟨f, fd, F, b, mm⟩ := D
  refine ⟨f, fd, F.ok scOf (fun vs H Q E h => ?_) (fun cdv A outer s H vs Q E hr h => ?_), F.kp, b, mm⟩
  · obtain ⟨m, n, ds, v, rfl, _⟩ := h
    rfl
  · obtain ⟨m, n, ds, v, rfl, hd, hne, hz, mgs, hn, k⟩ := h
    refine ⟨_, pss_one (ps_ret (w_ixL K (pv 1) (pe_cal W hr (pa_cons (pv 0) (pa_cons (w_len K T.len (pa_cons (pv 1) pa_nil)) pa_nil))))), ?_⟩
    have hh : Hold H [some (vA (.ref m)), some (dA (.list ds))] (L2.start ["m", "some"] [V.ref m, v]) := fun i P hi => by
      match i, hi with
      | 0, hi => cases hi; exact ⟨_, rfl, rfl⟩
      | 1, hi => cases hi; exact ⟨_, rfl, hd⟩
      | i + 2, hi => simp at hi
    have hlen : 1 ≤ ds.length := by cases ds with
      | nil => exact absurd rfl hne
      | cons a t => simp
    refine u_ret (u_op (u_var rfl (go_draw rfl hh rfl mgs (lim := ds.length) (ed_lenL (ea_cons (ed_var rfl) ea_nil)) hlen hz hn fun r H' hr' mg' fx => ?_)))
    have ho : ∀ a ∈ [m], Oth H a := fun a ha => by rw [List.mem_singleton.mp ha]; exact mgs.oth
    obtain ⟨p, xs, rfl, hp, hx⟩ := Fx.dq ho fx hd
    obtain ⟨x, hx1, hx2⟩ := hx.get (List.getElem?_eq_getElem hr')
    exact ⟨p, xs, _, x, rfl, rfl, SqL.of hp, atI_nat hx1, k r _ x H' (List.getElem?_eq_getElem hr') hx2 mg' fx⟩

/-! _law_begun -/
abbrev sBegun : Stmt := top 49
theorem scBegun : FnScope ["script", "m", "cell"] ["script"] (defScope sBegun) := ⟨rfl, rfl, rfl, by decide +kernel, rfl, by decide +kernel, by decide +kernel⟩
def spBegun0 (K : PySem.W.Frag) : Sp := fun vs H Q _ => ∃ (a : Addr) (ns : List Int), vs = [.ref a] ∧ SqL K H a (ns.map V.int) ∧ ns.length ≤ 1000000 ∧ ∀ m c g H', H m = none → H c = none → H g = none → Same H H' → MP m c g 0 H' → Q (.ref m) H'
theorem src_scr {a : Addr} {B : Hp} {S : Sto} {ns : List Int} (h : S[0]? = some (some (aScr K B a ns))) : Src (iList K (tVar 0)) S (ns.map PyData.int) := fun σ H R hl hh k => by
  obtain ⟨v, hv, rfl, hS, e⟩ := hh 0 _ h
  refine ⟨_, hv, a, rfl, ⟨_, e.seq hS⟩, k _ H (Same.refl H) fun H' e' => ?_⟩
  have hS' : SqL K H' a (ns.map V.int) := (e.trans e').seq hS
  refine ⟨fun i hi => ?_, ⟨_, hS', by simp⟩, fun i x H2 hi ⟨e2, q⟩ => ?_⟩
  · have hi' : i < (ns.map V.int).length := by simpa using hi
    exact ⟨_, _, hS', List.getElem?_eq_getElem hi'⟩
  · subst e2
    have hx := q _ hS'
    have hi' : i < ns.length := by simpa using hi
    rw [List.getElem?_map, List.getElem?_eq_getElem hi'] at hx
    cases hx
    exact ⟨Same.refl _, .int ns[i], by simp [hi'], rfl⟩
theorem ok_begun0 (T : Tb mg) (D : Dn K mg "_law_begun" sBegun ["script"]) (W : Cal P w K mg base 1 "_law_folded" ["script"] (spFold K)) : Cal P w K mg base 2 "_law_begun" ["script"] (spBegun0 K) := by
  obtain ⟨f, fd, F, b, mm⟩ := D
  refine ⟨f, fd, F.ok scBegun (fun vs H Q E h => ?_) (fun cdv A outer s H vs Q E hr h => ?_), F.kp, b, mm⟩
  · obtain ⟨a, ns, rfl, _⟩ := h
    rfl
  · obtain ⟨a, ns, rfl, hS, hz, hrt⟩ := h
    refine ⟨_, pss_cons (ps_asg (pe_disp (pps_cons pe_str (pe_cal W hr (pa_cons (pv 0) pa_nil)) (pps_cons pe_str (pe_lst pa_nil) (pps_cons pe_str pe_int pps_nil))) rfl rfl (by simp) (by decide)) (pg_one 1 scBegun.nd))
      (pss_cons (w_dput hr (pv 1) pe_str (pe_lc (own := [("cell", 2)]) (g := gName 2) (tt := tYes) rfl scBegun.nd (pi_list (pv 0)) (blkOk_by (by kernel_rfl)) (fun _ _ _ _ _ => pg_one 2 scBegun.nd) (fun _ _ _ _ _ => pts_nil)
        (fun _ _ _ _ _ => pe_ifExp (pt_cmpR op_ge (pv 2) (pe_op op_pow pe_int pe_int) (nomark _)) (pv 2) pe_int)))
      (pss_one (ps_ret (pv 1)))), ?_⟩
    have h0 : Hold H [some (aScr K H a ns), none, none] (L2.start ["script", "m", "cell"] [V.ref a]) := fun i P hi => by
      match i, hi with
      | 0, hi => cases hi; exact ⟨_, rfl, rfl, hS, Same.refl H⟩
      | 1, hi => cases hi
      | 2, hi => cases hi
      | i + 3, hi => simp at hi
    refine u_asg fun m hm => ?_
    have s1 : Same H (upd H m (.dK [])) := Same.new hm
    refine u_call (u_cons (u_var rfl (u_nil ⟨a, ns, rfl, s1.seq hS, hz, fun c H2 hc e2 hI => ?_⟩)))
    have hm2 : H2 m = some (.dK []) := e2 _ _ upd_same
    have s2 : Same H H2 := s1.trans e2
    refine ⟨Nat.zero_le _, fun g hg => ?_⟩
    have ngm : m ≠ g := fun q => by rw [← q, hm2] at hg; cases hg
    obtain ⟨cs, hcs, hcp⟩ := hI
    have ngc : c ≠ g := fun q => by rw [← q, hcp] at hg; cases hg
    have ncm : c ≠ m := fun q => by rw [q, upd_same] at hc; cases hc
    refine ⟨(upd_ne ngm).trans hm2, [(kCells, .ref c), (kGreat, .ref g), (kSpot, .int 0)], rfl, (show 3 ≤ 15 by decide), ?_⟩
    generalize hkv : mergeK [] [(kCells, V.ref c), (kGreat, V.ref g), (kSpot, V.int 0)] = kvs
    have hkv' : putK (putK (putK [] kCells (V.ref c)) kGreat (V.ref g)) kSpot (V.int 0) = kvs := hkv
    have vc : valV kvs kCells = some (.ref c) := by rw [← hkv', valV_put, if_neg (by decide), valV_put, if_neg (by decide), valV_put, if_pos rfl]
    have vg : valV kvs kGreat = some (.ref g) := by rw [← hkv', valV_put, if_neg (by decide), valV_put, if_pos rfl]
    have vs : valV kvs kSpot = some (.int ((0 : Nat) : Int)) := by rw [← hkv', valV_put, if_pos rfl]; rfl
    have vl : kvs.length ≤ 9 := by
      rw [← hkv']
      have q1 := length_putK (putK (putK [] kCells (V.ref c)) kGreat (V.ref g)) kSpot (V.int 0)
      have q2 := length_putK (putK [] kCells (V.ref c)) kGreat (V.ref g)
      have q3 := length_putK ([] : List (Key × V)) kCells (V.ref c)
      simp at q3
      omega
    generalize hH3 : upd (upd H2 g (.lst [])) m (.dK kvs) = H3
    have f3 : Same H H3 := by rw [← hH3]; exact Same.mut (Same.mut s2 (Same.free s2 hg)) hm
    have hm3 : H3 m = some (.dK kvs) := by rw [← hH3]; exact upd_same
    have hc3 : H3 c = some (.lst (cs.map V.int)) := by rw [← hH3, upd_ne ncm, upd_ne ngc]; exact hcp
    have g3 : Hold H3 [some (aScr K H a ns), some (vA (.ref m)), none] ((L2.start ["script", "m", "cell"] [V.ref a]).set 1 (some (.ref m))) := (h0.mono f3).set (j := 1) (P := vA (.ref m)) (v := .ref m) rfl (by show 1 < 3; decide)
    refine go_dputN (by rfl) g3 (ef_lcA (js := [2]) ns PyData.int (fun c => .int (if (10 : Int) ^ (18 : Int).toNat ≤ c then c else 0)) (fun c => [some (aScr K H a ns), some (vA (.ref m)), some (dA (.int c))]) (src_scr rfl) (szl hz) (by decide) (fun c _ => tg_name)
      (fun c _ => er_if (P := dA (.int (if (10 : Int) ^ (18 : Int).toNat ≤ c then c else 0))) (et_test (ed_opB (i := c) (ed_var rfl) (ed_opC (g := fun i j => i ^ j.toNat) ed_int ed_int ⟨by decide, by decide, by decide⟩))) (fun q => ed_is (ed_var rfl) (by rw [if_pos (of_decide_eq_true q)])) (fun q => ed_is ed_int (by rw [if_neg (of_decide_eq_false q)]))) (fun _ _ => rfl)) fun p xs H4 hp e4 hpl hpx => ?_
    have hxs : xs = (ns.map fun c => if (10 : Int) ^ (18 : Int).toNat ≤ c then c else 0).map V.int := ints_of (by rw [List.map_map]; exact hpx)
    have hm4 := e4 _ _ hm3
    refine ⟨_, rfl, m, _, rfl, DPut.k (k := kGreat) hm4 (szl' (by omega)), ?_⟩
    have npm : p ≠ m := fun q => by rw [q, hm3] at hp; cases hp
    have npc : c ≠ p := fun q => by rw [← q, hc3] at hp; cases hp
    refine u_ret (u_var rfl (hrt m c p _ hm (Same.free s1 hc) (Same.free f3 hp) (Same.mut (f3.trans e4) hm) ⟨_, cs, _, upd_same, ?_, ?_, ?_, ?_, by rw [upd_ne ncm]; exact e4 _ _ hc3, hcs, by rw [upd_ne npm, hpl, hxs], by rw [List.length_map]; exact hz, npc⟩))
    · rw [valV_put, if_neg (by decide)]; exact vc
    · rw [valV_put, if_pos rfl]
    · rw [valV_put, if_neg (by decide)]; exact vs
    · have := length_putK kvs kGreat (V.ref p)
      omega
def spBegun (K : PySem.W.Frag) : Sp := fun vs H Q _ => ∃ (a : Addr) (ns : List Int), vs = [.ref a] ∧ SqL K H a (ns.map V.int) ∧ ns.length ≤ 1000000 ∧ ∀ m H', H m = none → Same H H' → MG m 0 H' → Q (.ref m) H'
theorem ok_begun (T : Tb mg) (D : Dn K mg "_law_begun" sBegun ["script"]) (W : Cal P w K mg base 1 "_law_folded" ["script"] (spFold K)) : Cal P w K mg base 2 "_law_begun" ["script"] (spBegun K) := (ok_begun0 T D W).ghost fun vs H Q E h => by
  obtain ⟨a, ns, rfl, hS, hz, k⟩ := h
  refine ⟨H, Rg.refl H, a, ns, rfl, hS, hz, fun m c g H' hm hc hg e mp => ?_⟩
  obtain ⟨kvs', cs', gs', hm', hc', hg', hs', hk', hC', hC64', hG', hGz', hcg⟩ := mp
  have ncm : c ≠ m := fun q => by rw [q, hm'] at hC'; cases hC'
  have ngm : g ≠ m := fun q => by rw [q, hm'] at hG'; cases hG'
  refine ⟨upd (upd H' c (gl c (cs'.map V.int))) g (gl g (gs'.map V.int)), (rg_hide hC').trans (rg_hide (by rw [upd_ne (Ne.symm hcg)]; exact hG')), k m _ hm (Same.mut (Same.mut e hc) hg) ⟨c, g, kvs', cs', gs', by rw [upd_ne (Ne.symm ngm), upd_ne (Ne.symm ncm)]; exact hm', hc', hg', hs', hk', by rw [upd_ne hcg, upd_same], hC64', upd_same, hGz', hcg⟩⟩
end Rn
end
section
set_option maxHeartbeats 4000000
namespace Rn
open PySem L2 PyProof.Rows PySem.W
variable {P : Program} {w : World} {K : PySem.W.Frag} {mg : Str → Option Value} {base : Heap}
/-! stores told slot by slot -/
section
variable {H : Hp} {S : Sto} {σ : L2.St} {x : Option L2.V} {v : L2.V} {A : Ab}
theorem h_nil : Hold H [] [] := fun i P hi => by simp at hi
theorem h_no (h : Hold H S σ) : Hold H (none :: S) (x :: σ) := fun i P hi => by
  cases i with
  | zero => simp at hi
  | succ i => exact h i P (by simpa using hi)
theorem h_ab (hp : A.p v H) (h : Hold H S σ) : Hold H (some A :: S) (some v :: σ) := fun i P hi => by
  cases i with
  | zero => simp at hi; subst hi; exact ⟨v, rfl, hp⟩
  | succ i => exact h i P (by simpa using hi)
end

theorem ef_listRg {S : Sto} {te : TE} {n : Nat} (h : Ed te S (.int (n : Nat))) (hn : n ≤ 1000000) : Ef (tLstRg (tRg1 te)) S ((List.range n).map fun i => .int (i : Nat)) := fun σ H Q hl hh k => h σ H _ hl hh fun v H1 e1 dv => by
  cases dv
  refine ⟨(n : Nat), rfl, RgOk.of_le (Int.le_refl 0) (by omega) (by decide) (by omega), fun q hq => ?_⟩
  have e : rgV 0 (n : Nat) = ((List.range n).map fun i => ((i : Nat) : Int)).map V.int := by
    unfold rgV
    simp [List.map_map, Function.comp_def]
  rw [e]
  refine k q _ _ (Same.free e1 hq) (Same.mut e1 (Same.free e1 hq)) upd_same ?_
  have q2 : ((List.range n).map fun i => PyData.int (i : Nat)) = ((List.range n).map fun i => ((i : Nat) : Int)).map PyData.int := by rw [List.map_map]; rfl
  rw [q2]
  exact dq_ints _
section
variable {S : Sto} {t t1 t2 : TE} {tb : TS} {u : TS} {D : Ends} {σ : L2.St} {H : Hp} {ds es : List PyData} {i j : Nat}
theorem go_par2 (hl : σ.length = S.length) (hh : Hold H S σ) (h1 : Ef t1 S ds) (h2 : Ef t2 S es) (k : ∀ q xs p ys H', H q = none → H p = none → q ≠ p → Same H H' → H' q = some (.lst xs) → DqAll H' ds xs → H' p = some (.lst ys) → DqAll H' es ys → u D ((σ.set i (some (.ref q))).set j (some (.ref p))) H') :
    tSeq (tPar i j (tCons t1 (tCons t2 tNil))) u D σ H := h1 σ H _ hl hh fun q xs H1 hq e1 q1 q2 => h2 σ H1 _ hl (hh.mono e1) fun p ys H2 hp e2 p1 p2 => ⟨_, _, rfl, k q xs p ys H2 hq (Same.free e1 hp) (fun z => by rw [← z, q1] at hp; cases hp) (e1.trans e2) (e2 _ _ q1) (q2.mono e2) p1 p2⟩
theorem u_rng {te : TE} {g : TG} (h : te σ H fun v H1 => tSeq (tFor (iRng1 (tCons (tC v) tNil)) g tb) u D σ H1) : tSeq (tFor (iRng1 (tCons te tNil)) g tb) u D σ H := h
/-- a for over range(n), by what holds at each turn -/
theorem go_range {n : Nat} (hn : n ≤ 1000000) (I : Nat → L2.St → Hp → Prop) (h0 : I 0 σ H)
    (body : ∀ i σ H D', i < n → I i σ H → D'.rt = D.rt → (∀ σ' H', I (i + 1) σ' H' → D'.nx σ' H') → tb D' (σ.set j (some (.int (i : Nat)))) H) (fin : ∀ σ H, I n σ H → u D σ H) : tSeq (tFor (iRng1 (tCons (tC (.int (n : Nat))) tNil)) (gName j) tb) u D σ H := by
  refine ⟨n, rfl, by omega, by omega, ?_⟩
  rw [Int.toNat_natCast]
  refine ⟨fun i m σ H => m = n - i ∧ i ≤ n ∧ I i σ H, ⟨n, by simp, Nat.zero_le _, h0⟩, ?_⟩
  rintro i m σ H ⟨rfl, hi, hI⟩
  by_cases hlt : i < n
  · refine .inr ⟨hlt, fun σ' H' => i + 1 ≤ n ∧ I (i + 1) σ' H', fun σ' H' q => ⟨n - (i + 1), by omega, rfl, q⟩, fun x H' ⟨e, y⟩ => ?_⟩
    subst e
    rw [y, Int.zero_add]
    exact body i σ _ _ hlt hI rfl fun σ' H' q => ⟨hlt, q⟩
  · have e : i = n := by omega
    subst e
    exact .inl ⟨Nat.le_refl _, fin σ H hI⟩
end

/-! _law_lot -/
def sortPrs (l : List (Nat × Nat)) : Lot := l.mergeSort (dataLe false ePr)
theorem rise_sort {acc : List (Nat × Nat)} (h : (acc.map (·.1)).Nodup) : rising ((sortPrs acc).map (·.1)) = true := by
  rw [rising_pw]
  have hp := sort_pairwise (le_total ePr) acc
  have hn : ((sortPrs acc).map (·.1)).Nodup := ((List.mergeSort_perm acc (dataLe false ePr)).map _).nodup_iff.mpr h
  rw [List.pairwise_map]
  have hn' : (sortPrs acc).Pairwise fun a b => a.1 ≠ b.1 := by
    have := hn
    rwa [List.nodup_iff_pairwise_ne, List.pairwise_map] at this
  refine List.Pairwise.imp₂ (fun a b (h1 : dataLe false ePr a b = true) (h2 : a.1 ≠ b.1) => ?_) hp hn'
  have q : (!dataLt (ePr b) (ePr a)) = true := h1
  rw [lt_pr] at q
  simp at q
  omega
abbrev sLot : Stmt := top 53
theorem scLot : FnScope ["m", "sizes", "size", "left", "found", "again", "knob", "k"] ["m", "sizes", "size"] (defScope sLot) := ⟨rfl, rfl, rfl, by decide +kernel, rfl, by decide +kernel, by decide +kernel⟩
def spLot : Sp := fun vs H Q _ => ∃ (m : Addr) (n : Nat) (sz : List Nat) (size : Nat) (v : L2.V), vs = [.ref m, v, .int (size : Nat)] ∧ Dq H (eRow sz) v ∧ SzWF sz ∧ 1 ≤ size ∧ size ≤ sz.length ∧ MG m n H ∧ n ≤ 900000 ∧
  ∀ (l : Lot) v H' n', LotWF sz l → Dq H' (eLot l) v → MG m n' H' → n' ≤ n + 6 → Fx [m] H H' → Q v H'
theorem ok_lot (T : Tb mg) (D : Dn K mg "_law_lot" sLot ["m", "sizes", "size"]) (W1 : Cal P w K mg base 3 "_law_of" ["m", "some"] spOf) (W2 : Cal P w K mg base 2 "_law_draw" ["m", "limit"] spDraw) : Cal P w K mg base 4 "_law_lot" ["m", "sizes", "size"] spLot := by
  obtain ⟨f, fd, FF, b, mm⟩ := D
  refine ⟨f, fd, FF.ok scLot (fun vs H Q E h => ?_) (fun cdv A outer s H0 vs Q E hr h => ?_), FF.kp, b, mm⟩
  · obtain ⟨m, n, sz, size, v, rfl, _⟩ := h
    rfl
  · obtain ⟨m, n, sz, size, v1, rfl, hsz, hwf, hs1, hs2, mg0, hn, hrt⟩ := h
    refine ⟨_, pss_cons (ps_par (i := 3) (j := 4) rfl scLot.nd rfl rfl (by decide) rfl rfl (pa_cons (pe_listRg rfl (by rfl) T.list (prg_1 (by rfl) T.range (w_len K T.len (pa_cons (pv 1) pa_nil)))) (pa_cons (pe_lst pa_nil) pa_nil)) (by rfl))
      (pss_cons (ps_for PassesOwn.never rfl (pi_range1 (by rfl) T.range (pa_cons (pv 2) pa_nil)) (pg_one 5 scLot.nd)
        (pss_cons (ps_asg (pe_cal W1 hr (pa_cons (pv 0) (pa_cons (pv 3) pa_nil))) (pg_one 6 scLot.nd))
        (pss_cons (ps_setLc (i := 3) (own := [("k", 7)]) (g := gName 7) rfl scLot.nd rfl rfl rfl (pi_list (pv 3)) (blkOk_by (by kernel_rfl)) (fun _ _ _ _ _ => pg_one 7 scLot.nd) (fun _ _ _ _ _ => pts_one (pt_cmpR op_ne (pv 7) (pv 6) (nomark _))) (fun _ _ _ _ _ => pv 7))
        (pss_one (ps_expr (pe_bm F.plainAttrs_list F.slot_list_append F.type_list_append mt_append (pv 4) (pa_cons (pe_tup (pa_cons (pv 6) (pa_cons (pe_cal W2 hr (pa_cons (pv 0) (pa_cons (w_ixT K (pv 1) (pv 6)) pa_nil))) pa_nil))) pa_nil)))))))
      (pss_one (ps_ret (w_tuple K T.tuple (pa_cons (w_sorted hr T.sorted (pa_cons (pv 4) pa_nil)) pa_nil))))), ?_⟩
    obtain ⟨z1, z2, z3⟩ := hwf
    have lsz : ∀ {k : Nat}, k < sz.length → 1 ≤ sz.getD k 0 ∧ sz.getD k 0 ≤ 4 := fun {k} hk => by
      have e : sz[k]? = some (sz.getD k 0) := by rw [List.getD_eq_getElem?_getD, List.getElem?_eq_getElem hk]; rfl
      have := z3 _ (List.mem_of_getElem? e)
      omega
    have hO : ∀ {H : Hp} {n : Nat}, MG m n H → ∀ a ∈ [m], Oth H a := fun h a ha => by rw [List.mem_singleton.mp ha]; exact h.oth
    refine go_par2 (S := [some (vA (.ref m)), some (dA (eRow sz)), some (dA (eN size)), none, none, none, none, none]) rfl (h_ab rfl (h_ab hsz (h_ab rfl (h_no (h_no (h_no (h_no (h_no h_nil)))))))) (ef_listRg (n := sz.length) (ed_is (ed_lenT (ds := sz.map eN) (ea_cons (ed_var rfl) ea_nil)) (by simp)) (by omega)) (ef_lst ea_nil (by decide))
      fun q0 xs0 p ys0 H1 hq0 hp0 hqp e1 hq1 hx1 hp1 hy1 => ?_
    have hy : ys0 = [] := hy1
    subst hy
    refine u_rng (u_var (x := .int (size : Nat)) rfl ?_)
    refine go_range (by omega) (fun i σ H => ∃ (lf : List Nat) (acc : List (Nat × Nat)) (q : Addr) (xs : List L2.V) (n' : Nat) (a5 a6 a7 : Option L2.V), σ = [some (.ref m), some v1, some (.int (size : Nat)), some (.ref q), some (.ref p), a5, a6, a7] ∧ MG m n' H ∧ n' ≤ n + 2 * i ∧ Fx [m] H0 H ∧ q ≠ p ∧
        H q = some (.lst xs) ∧ DqAll H (lf.map eN) xs ∧ LstAt p (acc.map ePr) H ∧ lf.Nodup ∧ lf.length + i = sz.length ∧ (∀ x ∈ lf, x < sz.length) ∧ acc.length = i ∧ (acc.map (·.1)).Nodup ∧ ∀ x ∈ acc, x.1 < sz.length ∧ x.2 < sz.getD x.1 0 ∧ x.1 ∉ lf) ?_ ?_ ?_
    · exact ⟨List.range sz.length, [], q0, xs0, n, none, none, none, rfl, mg0.same e1, by omega, Fx.of_same e1, hqp, hq1, hx1, ⟨rfl, [], hp1, rfl⟩, List.nodup_range, by simp, fun x hx => by simpa using hx, rfl, by simp, fun x hx => by simp at hx⟩
    · rintro i σ H D' hi ⟨lf, acc, q, xs, n', a5, a6, a7, rfl, mg1, hn1, fx1, hqp1, hq, hx, hL, nd, hlen, hlt, ha, nd2, hacc⟩ _ kk
      have hlf : 1 ≤ lf.length := by omega
      refine u_asg (u_call (u_cons (u_var rfl (u_cons (u_var rfl (u_nil ⟨m, n', lf.map eN, .ref q, rfl, ⟨q, xs, rfl, hq, hx⟩, ?_, by simp; omega, mg1, by omega, fun j d v H2 hd dv mg2 fx2 => ?_⟩))))))
      · intro z
        rw [List.map_eq_nil_iff] at z
        rw [z] at hlf
        simp at hlf
      · rw [List.getElem?_map] at hd
        obtain ⟨k0, hk0, rfl⟩ := Option.map_eq_some_iff.mp hd
        cases dv
        have hk : k0 ∈ lf := List.mem_of_getElem? hk0
        have hkn := hlt k0 hk
        have fx02 := fx1.trans fx2
        have hq2 := Fx.lst (hO mg1) fx2 hq
        have hx2 := Fx.dqAll (hO mg1) fx2 hx
        obtain ⟨nl, zs, hz1, hz2⟩ := hL
        have hp2 := Fx.lst (hO mg1) fx2 hz1
        have hz2' := Fx.dqAll (hO mg1) fx2 hz2
        have hsz2 := Fx.dq (hO mg0) fx02 hsz
        refine go_new (S := [some (vA (.ref m)), some (dA (eRow sz)), none, some (dA (.list (lf.map eN))), none, none, some (dA (eN k0)), none]) rfl (h_ab rfl (h_ab hsz2 (h_no (h_ab ⟨q, xs, rfl, hq2, hx2⟩ (h_no (h_no (h_ab rfl (h_no h_nil))))))))
          (ef_lc (js := [7]) lf eN (fun x => !decide (((x : Nat) : Int) = ((k0 : Nat) : Int))) eN (fun x => [some (vA (.ref m)), some (dA (eRow sz)), none, some (dA (.list (lf.map eN))), none, none, some (dA (eN k0)), some (dA (eN x))]) (src_list (ed_var rfl)) (szl (by omega)) (by decide) (fun x _ => tg_name) (fun x _ => et_test (ed_neI (ed_var rfl) (ed_var rfl))) (fun x _ _ => ed_var rfl) (fun _ _ => rfl)) fun q3 xs3 H3 hq3 e3 hq3' hx3 => ?_
        have hp3 := e3 _ _ hp2
        have q3p : q3 ≠ p := fun z => by rw [z, hp2] at hq3; cases hq3
        have mg3 := mg2.same e3
        have hsz3 := Dq.mono e3 _ _ hsz2
        refine ⟨_, rfl, .inl ⟨rfl, _, SqL.of hp3⟩, u_cons (u_cons (u_var rfl (u_cons (go_draw (S := [some (vA (.ref m)), some (dA (eRow sz)), none, none, none, none, some (dA (eN k0)), none]) rfl (h_ab rfl (h_ab hsz3 (h_no (h_no (h_no (h_no (h_ab rfl (h_no h_nil)))))))) rfl mg3 (lim := sz.getD k0 0) (ed_ixT (d := eN (sz.getD k0 0)) (ed_var rfl) (ed_var rfl) (at_row hkn)) (lsz hkn).1 (by have := (lsz hkn).2; omega) (by omega) fun r H4 hr' mg4 fx4 => u_nil ⟨(show 2 ≤ sizeLine by decide), fun T hT => u_nil ?_⟩))))⟩
        have hp4 := Fx.lst (hO mg3) fx4 hp3
        have hq4 := Fx.lst (hO mg3) fx4 hq3'
        have hx4 := Fx.dqAll (hO mg3) fx4 hx3
        have hz4 := Fx.dqAll (hO mg3) fx4 (DqAll.mono e3 _ _ hz2')
        have npT : p ≠ T := fun z => by rw [← z, hp4] at hT; cases hT
        have nqT : q3 ≠ T := fun z => by rw [← z, hq4] at hT; cases hT
        have e5 : Same H4 (upd H4 T (.tup [.int (k0 : Nat), .int (r : Nat)])) := Same.new hT
        have hp5 := e5 _ _ hp4
        have hzl := hz4.length
        rw [List.length_map] at hzl
        refine ⟨p, zs, _, rfl, rfl, hp5, szl' (by omega), ?_⟩
        have gr := LstAt.grow (es := [ePr (k0, r)]) (ys := [.ref T]) hp4 nl hz4 e5 rfl (DqAll.one ⟨T, _, rfl, upd_same, .cons rfl (.one rfl)⟩)
        have mg5 : MG m (n' + 1 + 1) (upd (upd H4 T (.tup [.int (k0 : Nat), .int (r : Nat)])) p (.lst (zs ++ [.ref T]))) := (mg4.same e5).upd hp5 (.inl (fun kvs z => by cases z)) (fun φ z => by cases z)
        refine kk _ _ ⟨lf.filter fun x => !decide (((x : Nat) : Int) = ((k0 : Nat) : Int)), acc ++ [(k0, r)], q3, xs3, n' + 1 + 1, _, _, _, rfl, mg5, by omega, ?_, q3p, by rw [upd_ne q3p]; exact e5 _ _ hq4, ?_, by rw [List.map_append]; exact gr, nd.filter _, ?_, fun x hx' => hlt x (List.mem_filter.mp hx').1, by simp [ha], ?_, fun x hx' => ?_⟩
        · exact fun b u hb hu hbu => by
            have h4 := fx4 b u hb hu (e3 _ _ (fx02 b u hb hu hbu))
            have nbp : b ≠ p := fun z => by rw [z] at hbu; rw [hp0] at hbu; cases hbu
            rw [upd_ne nbp]
            exact e5 _ _ h4
        · exact DqAll.tk (tk_upd hp5 (fun ys z => by cases z)) _ _ (noLs_map fun _ _ => rfl) (hx4.mono e5)
        · have hcount : (lf.filter fun x => !decide (((x : Nat) : Int) = ((k0 : Nat) : Int))).length + 1 = lf.length := by
            have e : (lf.filter fun x => !decide (((x : Nat) : Int) = ((k0 : Nat) : Int))) = lf.erase k0 := by
              rw [nd.erase_eq_filter]
              refine List.filter_congr fun x _ => ?_
              by_cases z : x = k0
              · simp [z]
              · have : ¬ ((x : Nat) : Int) = ((k0 : Nat) : Int) := fun y => z (by omega)
                simp [z, this]
            rw [e, List.length_erase_of_mem hk]
            omega
          omega
        · rw [List.map_append, List.nodup_append]
          refine ⟨nd2, by simp, fun a ha' b hb' z => ?_⟩
          simp at hb'
          obtain ⟨x, hx', rfl⟩ := List.mem_map.mp ha'
          subst hb' z
          exact (hacc x hx').2.2 hk
        · rcases List.mem_append.mp hx' with z | z
          · obtain ⟨y1, y2, y3⟩ := hacc x z
            exact ⟨y1, y2, fun y => y3 (List.mem_filter.mp y).1⟩
          · rw [List.mem_singleton.mp z]
            exact ⟨hkn, hr', fun y => by have := (List.mem_filter.mp y).2; simp at this⟩
    · rintro σ H ⟨lf, acc, q, xs, n', a5, a6, a7, rfl, mg1, hn1, fx1, hqp1, hq, hx, hL, nd, hlen, hlt, ha, nd2, hacc⟩
      refine go_ret (S := [none, none, none, none, some (dA (.list (acc.map ePr))), none, none, none]) rfl (h_no (h_no (h_no (h_no (h_ab hL.ref (h_no (h_no (h_no h_nil)))))))) (ed_tupOf (ea_cons (ef_sorted ePr acc (ea_cons (ed_var rfl) ea_nil) ⟨AllAlike.of alike_pr, .inl (Sortable.tuples fun b => ⟨_, _, rfl⟩)⟩ (fun b _ => by show 1 ≤ 8; decide)).ed ea_nil)) fun v H2 e2 dv => ?_
      have hperm := List.mergeSort_perm acc (dataLe false ePr)
      refine hrt (sortPrs acc) v H2 n' ⟨?_, ?_, fun x hx' => ?_, rise_sort nd2⟩ dv (mg1.same e2) (by omega) (fx1.trans (Fx.of_same e2))
      · show 1 ≤ (acc.mergeSort _).length
        rw [List.length_mergeSort]; omega
      · show (acc.mergeSort _).length ≤ 3
        rw [List.length_mergeSort]; omega
      · have := hacc x (hperm.mem_iff.mp hx')
        exact ⟨this.1, this.2.1⟩
end Rn
end
section
set_option maxHeartbeats 4000000
namespace Rn
open PySem L2 PyProof.Rows PySem.W
variable {P : Program} {w : World} {K : PySem.W.Frag} {mg : Str → Option Value} {base : Heap}
theorem eqv_map {α : Type} [DecidableEq α] {f : α → PyData} (hf : ∀ a b, PyData.eqv (f a) (f b) = decide (a = b)) : ∀ as bs : List α, PyData.eqvAll (as.map f) (bs.map f) = decide (as = bs)
  | [], [] => rfl
  | [], _ :: _ => rfl
  | _ :: _, [] => rfl
  | a :: as, b :: bs => by
    show (PyData.eqv (f a) (f b) && PyData.eqvAll (as.map f) (bs.map f)) = _
    rw [hf, eqv_map hf as bs]
    simp only [List.cons.injEq, Bool.decide_and]
theorem eqv_lot (a b : Lot) : PyData.eqv (eLot a) (eLot b) = decide (a = b) := eqv_map eqv_pr a b
section
variable {X : Cx} {k : Nat}
theorem w_notInD (K : PySem.W.Frag) (hr : Room k X.A) (hK : X.K = K := by rfl) : OpR X (compareOp .NotIn) (rNotInD K) := by subst hK; exact op_notInD (by have := hr.un; omega)
end
theorem ed_notInL {S : Sto} {ta tb : TE} {l : Lot} {ls : List Lot} (ha : Ed ta S (eLot l)) (hb : Ed tb S (.list (ls.map eLot))) : Ed (tOp (rNotInD K) ta tb) S (.bool (!decide (l ∈ ls))) :=
  er_op ha hb fun x y H Q px py k => ⟨eLot l, ls.map eLot, Dq.dp _ x px, Dq.dp _ y py, by
    unfold SeqAt.shaped
    rw [lay_lot, Bool.true_and]
    exact decide_eq_true (by have := depth_lot l; omega), shaped_list lay_lot (fun l => by have := depth_lot l; omega) ls, k _ H (Same.refl H) (by
    have e : ((ls.map eLot).any fun z => PyData.eqv z (eLot l)) = decide (l ∈ ls) := by
      rw [List.any_map]
      rw [Bool.eq_iff_iff, List.any_eq_true]
      simp only [Function.comp, eqv_lot, decide_eq_true_eq]
      exact ⟨fun ⟨x, hx, e⟩ => e ▸ hx, fun h => ⟨l, h, rfl⟩⟩
    rw [e]
    rfl)⟩
section
variable {te : TE} {σ : L2.St} {H : Hp} {Q : VK} {j : Nat}
/-- a list comprehension over range(n) whose item may change the heap -/
theorem go_lcR {n : Nat} (hn : n ≤ 1000000) (I : Addr → Nat → List L2.V → Hp → Prop) (h0 : ∀ D, H D = none → I D 0 [] (upd H D (.lst [])))
    (body : ∀ D i acc H' (Q' : VK), H D = none → i < n → acc.length = i → I D i acc H' → (∀ y H4, H4 D = some (.lst acc) → I D (i + 1) (acc ++ [y]) (upd H4 D (.lst (acc ++ [y]))) → Q' y H4) → te ((wipe σ [j]).set j (some (.int (i : Nat)))) H' Q')
    (fin : ∀ D acc H', H D = none → acc.length = n → I D n acc H' → Q (.ref D) H') : tLc (iRng1 (tCons (tC (.int (n : Nat))) tNil)) (gName j) tYes te [j] σ H Q := by
  refine ⟨n, rfl, by omega, by omega, ?_⟩
  rw [Int.toNat_natCast]
  intro D hD
  refine ⟨fun i m H => m = n - i ∧ i ≤ n ∧ ∃ acc, acc.length = i ∧ I D i acc H, ⟨n, by simp, Nat.zero_le _, [], rfl, h0 D hD⟩, ?_⟩
  rintro i m H' ⟨rfl, hi, acc, ha, hI⟩
  by_cases hlt : i < n
  · refine .inr ⟨hlt, fun H' => i + 1 ≤ n ∧ ∃ acc, acc.length = i + 1 ∧ I D (i + 1) acc H', fun H' q => ⟨n - (i + 1), by omega, rfl, q⟩, fun x H2 ⟨e, y⟩ => ?_⟩
    subst e
    rw [y, Int.zero_add]
    refine ⟨(wipe_set _ _ _ (by simp)).trans (wipe_wipe σ [j]), ?_⟩
    simp only [tYes, if_true]
    exact body D i acc _ _ hD hlt ha hI fun v H4 h1 h2 => ⟨acc, h1, by rw [ha]; exact szl' (by omega), hlt, acc ++ [v], by simp [ha], h2⟩
  · have e : i = n := by omega
    subst e
    exact .inl ⟨Nat.le_refl _, fin D acc H' hD ha hI⟩
end
theorem u_lc {te0 te : TE} {g : TG} {tt : TT} {vs : List Nat} {σ : L2.St} {H : Hp} {Q : VK} (h : te0 σ H fun v H1 => tLc (iRng1 (tCons (tC v) tNil)) g tt te vs σ H1 Q) : tLc (iRng1 (tCons te0 tNil)) g tt te vs σ H Q := h
theorem lots_nd {m : Addr} {H : Hp} {n : Nat} (h : MG m n H) : ∀ a ∈ [m], Oth H a := fun a ha => by rw [List.mem_singleton.mp ha]; exact h.oth

/-- 1 + a draw -/
theorem go_draw1 {te : TE} {σ : L2.St} {H : Hp} {Q : VK} {S : Sto} {m : Addr} {n lim : Nat} (hl : σ.length = S.length) (hh : Hold H S σ) (hm : σ[0]? = some (some (L2.V.ref m))) (mg : MG m n H) (h : Ed te S (.int (lim : Nat))) (h1 : 1 ≤ lim) (h2 : lim ≤ 1000000) (h3 : n ≤ 1000000)
    (k : ∀ (r : Nat) H', 1 ≤ r → r ≤ lim → MG m (n + 1) H' → Fx [m] H H' → Q (.int (r : Nat)) H') : tOp (rI0 fun i j => .int (i + j)) (tC (.int 1)) (tCall spDraw [] E0 (tCons (tVar 0) (tCons te tNil))) σ H Q :=
  u_opC (go_draw hl hh hm mg h h1 h2 h3 fun r H' hr mg' fx => ⟨1, (r : Nat), rfl, rfl, by
    have e : (1 + ((r : Nat) : Int)) = ((r + 1 : Nat) : Int) := by omega
    show Q (V.int (1 + ((r : Nat) : Int))) H'
    rw [e]
    exact k (r + 1) H' (by omega) (by omega) mg' fx⟩)
/-- a draw below lim where another is 0, else 0 -/
theorem go_drawIf {σ : L2.St} {H : Hp} {Q : VK} {m : Addr} {n l1 l2 : Nat} (hm : σ[0]? = some (some (L2.V.ref m))) (mg : MG m n H) (h1 : 1 ≤ l1) (h2 : l1 ≤ 1000000) (h1' : 1 ≤ l2) (h2' : l2 ≤ 1000000) (h3 : n ≤ 900000)
    (k : ∀ (r n' : Nat) H', r < l2 → MG m n' H' → n' ≤ n + 2 → Fx [m] H H' → Q (.int (r : Nat)) H') : tIf (tTest (tOp rEq (tCall spDraw [] E0 (tCons (tVar 0) (tCons (tC (.int (l1 : Nat))) tNil))) (tC (.int 0)))) (tCall spDraw [] E0 (tCons (tVar 0) (tCons (tC (.int (l2 : Nat))) tNil))) (tC (.int 0)) σ H Q := by
  have g : ∀ H, Hold H (List.replicate σ.length none) σ := fun H i P hi => by
    rw [List.getElem?_replicate] at hi
    split at hi <;> cases hi
  have hl : σ.length = (List.replicate σ.length (none : Option Ab)).length := by simp
  refine u_if (u_test (u_opR (go_draw hl (g H) hm mg ed_int h1 h2 (by omega) fun r H1 hr mg1 fx1 => ⟨rfl, decide (V.int (r : Nat) = V.int 0), rfl, ?_⟩)))
  cases decide (V.int (r : Nat) = V.int 0) with
  | true => exact iteT (go_draw hl (g H1) hm mg1 ed_int h1' h2' (by omega) fun r2 H2 hr2 mg2 fx2 => k r2 _ H2 hr2 mg2 (by omega) (fx1.trans fx2))
  | false => exact iteF (k 0 _ H1 (by omega) mg1 (by omega) fx1)

/-! _law_rig -/
abbrev sRig : Stmt := top 52
theorem scRig : FnScope ["m", "most", "many", "sizes", "some", "again", "lot", "k"] ["m", "most"] (defScope sRig) := ⟨rfl, rfl, rfl, by decide +kernel, rfl, by decide +kernel, by decide +kernel⟩
def spRig : Sp := fun vs H Q _ => ∃ (m : Addr) (n : Nat), vs = [.ref m, .int 3] ∧ MG m n H ∧ n ≤ 800000 ∧ ∀ (g : Rig) v H' n', RigWF g → Dq H' (eRig g) v → MG m n' H' → n' ≤ n + 40 → Fx [m] H H' → Q v H'
theorem ok_rig (T : Tb mg) (D : Dn K mg "_law_rig" sRig ["m", "most"]) (W1 : Cal P w K mg base 2 "_law_draw" ["m", "limit"] spDraw) (W2 : Cal P w K mg base 4 "_law_lot" ["m", "sizes", "size"] spLot) : Cal P w K mg base 5 "_law_rig" ["m", "most"] spRig := by
  obtain ⟨f, fd, FF, b, mm⟩ := D
  refine ⟨f, fd, FF.ok scRig (fun vs H Q E h => ?_) (fun cdv A outer s H0 vs Q E hr h => ?_), FF.kp, b, mm⟩
  · obtain ⟨m, n, rfl, _⟩ := h
    rfl
  · obtain ⟨m, n, rfl, mg0, hn, hrt⟩ := h
    refine ⟨_, pss_cons (ps_asg (pe_op op_add pe_int (pe_cal W1 hr (pa_cons (pv 0) (pa_cons (pv 1) pa_nil)))) (pg_one 2 scRig.nd))
      (pss_cons (ps_asg (w_tuple K T.tuple (pa_cons (pe_lc (own := [("k", 7)]) (g := gName 7) (tt := tYes) rfl scRig.nd (pi_range1 (by rfl) T.range (pa_cons (pv 2) pa_nil)) (blkOk_by (by kernel_rfl)) (fun _ _ _ _ _ => pg_one 7 scRig.nd) (fun _ _ _ _ _ => pts_nil)
          (fun _ _ _ _ _ => pe_op op_add pe_int (pe_ifExp (pt_cmpR op_eq (pe_cal W1 hr (pa_cons (pv 0) (pa_cons pe_int pa_nil))) pe_int (nomark _)) (pe_cal W1 hr (pa_cons (pv 0) (pa_cons pe_int pa_nil))) pe_int))) pa_nil)) (pg_one 3 scRig.nd))
      (pss_cons (ps_asg (pe_lst pa_nil) (pg_one 4 scRig.nd))
      (pss_cons (ps_for PassesOwn.never rfl (pi_range1 (by rfl) T.range (pa_cons (pe_ifExp (pt_cmpR op_eq (pe_cal W1 hr (pa_cons (pv 0) (pa_cons pe_int pa_nil))) pe_int (nomark _)) (pe_cal W1 hr (pa_cons (pv 0) (pa_cons pe_int pa_nil))) pe_int) pa_nil)) (pg_one 5 scRig.nd)
        (pss_cons (ps_asg (pe_cal W2 hr (pa_cons (pv 0) (pa_cons (pv 3) (pa_cons (pe_op op_add pe_int (pe_cal W1 hr (pa_cons (pv 0) (pa_cons (w_min T.min (pa_cons pe_int (pa_cons (pv 2) pa_nil))) pa_nil)))) pa_nil)))) (pg_one 6 scRig.nd))
        (pss_one (ps_asg (pe_op op_cat (pv 4) (pe_ifExp (pt_cmpR (w_notInD K hr) (pv 6) (pv 4) (by with_unfolding_all rfl)) (pe_lst (pa_cons (pv 6) pa_nil)) (pe_lst pa_nil))) (pg_one 4 scRig.nd)))))
      (pss_one (ps_ret (pe_tup (pa_cons (pv 3) (pa_cons (w_tuple K T.tuple (pa_cons (w_sorted hr T.sorted (pa_cons (pv 4) pa_nil)) pa_nil)) pa_nil)))))))), ?_⟩
    refine u_asg (go_draw1 (S := [some (vA (.ref m)), some (dA (.int (3 : Nat))), none, none, none, none, none, none]) (lim := 3) rfl (h_ab rfl (h_ab rfl (h_no (h_no (h_no (h_no (h_no (h_no h_nil)))))))) rfl mg0 (ed_var rfl) (by omega) (by omega) (by omega) fun mn H1 hm1 hm2 mg1 fx1 => ?_)
    refine u_asg (u_cb (u_cons (u_lc (u_var (x := .int (mn : Nat)) rfl (go_lcR (by omega) (fun D i acc H' => ∃ (sz : List Nat) (n' : Nat), acc = sz.map (fun x => V.int (x : Nat)) ∧ sz.length = i ∧ (∀ x ∈ sz, 2 ≤ x ∧ x ≤ 4) ∧ MG m n' H' ∧ n' ≤ n + 1 + 2 * i ∧ Fx [m] H0 H' ∧ H' D = some (.lst acc)) (fun D hD => ?_) (fun D i acc H' Q' hD hi ha hI kk => ?_) (fun D acc H' hD ha hI => ?_))))))
    · exact ⟨[], n + 1, rfl, rfl, fun x hx => by simp at hx, mg1.same (Same.new hD), by omega, fx1.trans (Fx.of_same (Same.new hD)), upd_same⟩
    · obtain ⟨sz, n', rfl, hsz, hx, mg2, hn2, fx2, hDl⟩ := hI
      refine u_opC (go_drawIf rfl mg2 (l1 := 3) (l2 := 3) (by omega) (by omega) (by omega) (by omega) (by omega) fun r n3 H3 hr mg3 hn3 fx3 => ⟨2, (r : Nat), rfl, rfl, ?_⟩)
      have hD3 := Fx.lst (lots_nd mg2) fx3 hDl
      have e : (2 + ((r : Nat) : Int)) = ((r + 2 : Nat) : Int) := by omega
      show Q' (V.int (2 + ((r : Nat) : Int))) H3
      rw [e]
      refine kk _ H3 hD3 ⟨sz ++ [r + 2], n3, by simp, by simp [hsz], fun x hx' => ?_, mg3.upd hD3 (.inl (fun kvs z => by cases z)) (fun φ z => by cases z), by omega, fun b u hb hu hbu => ?_, upd_same⟩
      · rcases List.mem_append.mp hx' with z | z
        · exact hx x z
        · rw [List.mem_singleton.mp z]; omega
      · have h1 := fx1 b u hb hu hbu
        have nb : b ≠ D := fun z => by rw [z, hD] at h1; cases h1
        rw [upd_ne nb]
        exact fx3 b u hb hu (fx2 b u hb hu hbu)
    · obtain ⟨sz, n2, rfl, hsz, hx, mg2, hn2, fx2, hDl⟩ := hI
      refine u_nil ⟨D, _, rfl, .inl ⟨SqL.of hDl, fun T0 hT => ?_⟩⟩
      have wf : SzWF sz := ⟨by omega, by omega, hx⟩
      have hsq : Dq (upd H' T0 (.tup (sz.map fun x => V.int (x : Nat)))) (eRow sz) (.ref T0) := ⟨T0, _, rfl, upd_same, by
        have q := dq_ints (H := upd H' T0 (.tup (sz.map fun x => V.int (x : Nat)))) (sz.map fun x => ((x : Nat) : Int))
        rw [List.map_map, List.map_map] at q
        exact q⟩
      have mg3 : MG m n2 (upd H' T0 (.tup (sz.map fun x => V.int (x : Nat)))) := mg2.same (Same.new hT)
      have fx3 : Fx [m] H0 (upd H' T0 (.tup (sz.map fun x => V.int (x : Nat)))) := fx2.trans (Fx.of_same (Same.new hT))
      refine go_new (S := List.replicate 8 none) (ds := []) rfl (fun i P hi => by rw [List.getElem?_replicate] at hi; split at hi <;> cases hi) (ef_lst ea_nil (by decide)) fun p xs H4 hp e4 hpl hpx => ?_
      have hxs : xs = [] := hpx
      subst hxs
      refine u_rng (go_drawIf rfl (mg3.same e4) (l1 := 2) (l2 := 4) (by omega) (by omega) (by omega) (by omega) (by omega) fun rep n5 H5 hrep mg5 hn5 fx5 => ?_)
      have fx05 : Fx [m] H0 H5 := (fx3.trans (Fx.of_same e4)).trans fx5
      have hsq5 : Dq H5 (eRow sz) (.ref T0) := Fx.dq (lots_nd (mg3.same e4)) fx5 (Dq.mono e4 _ _ hsq)
      have hpl5 := Fx.lst (lots_nd (mg3.same e4)) fx5 hpl
      refine go_range (by omega) (fun i σ H => ∃ (ls : List Lot) (n' : Nat) (v4 : L2.V) (a5 a6 a7 : Option L2.V), σ = [some (.ref m), some (.int 3), some (.int (mn : Nat)), some (.ref T0), some v4, a5, a6, a7] ∧ MG m n' H ∧ n' ≤ n + 9 + 7 * i ∧ Fx [m] H0 H ∧ Dq H (eRow sz) (.ref T0) ∧ Dq H (.list (ls.map eLot)) v4 ∧ ls.Nodup ∧ (∀ l ∈ ls, LotWF sz l) ∧ ls.length ≤ i) ?_ ?_ ?_
      · exact ⟨[], n5, .ref p, none, none, none, rfl, mg5, by omega, fx05, hsq5, ⟨p, [], rfl, hpl5, rfl⟩, List.nodup_nil, fun l hl => by simp at hl, Nat.le_refl _⟩
      · rintro i σ H D' hi ⟨ls, n', v4, a5, a6, a7, rfl, mg6, hn6, fx6, hsq6, hls6, nd6, wf6, len6⟩ _ kk
        refine u_asg (u_call (u_cons (u_var rfl (u_cons (u_var rfl (u_cons (go_draw1 (S := [some (vA (.ref m)), none, some (dA (eN mn)), none, none, none, none, none]) (lim := min 3 mn) rfl (h_ab rfl (h_no (h_ab rfl (h_no (h_no (h_no (h_no (h_no h_nil)))))))) rfl mg6 (ed_is (ed_min2 (ea_cons ed_int (ea_cons (ed_var (P := dA (.int ((mn : Nat) : Int))) rfl) ea_nil))) ?_) (by omega) (by omega) (by omega) fun r H7 hr1 hr2 mg7 fx7 => u_nil ?_)))))))
        · show PyData.int (min 3 ((mn : Nat) : Int)) = _
          congr 1
          omega
        · have hsq7 := Fx.dq (lots_nd mg6) fx7 hsq6
          have hls7 := Fx.dq (lots_nd mg6) fx7 hls6
          refine ⟨m, _, sz, r, .ref T0, rfl, hsq7, wf, hr1, by omega, mg7, by omega, fun l v H8 n8 hl dv mg8 hn8 fx8 => ?_⟩
          have hsq8 := Fx.dq (lots_nd mg7) fx8 hsq7
          have hls8 := Fx.dq (lots_nd mg7) fx8 hls7
          have hcat : Ed (tOp rCat (tVar 4) (tIf (tTest (tOp (rNotInD K) (tVar 6) (tVar 4))) (tLst (tCons (tVar 6) tNil)) (tLst tNil))) [none, none, none, none, some (dA (.list (ls.map eLot))), none, some (dA (eLot l)), none] (.list ((if l ∈ ls then ls else ls ++ [l]).map eLot)) := by
            refine ed_is (ed_catL (ds := ls.map eLot) (es := if l ∈ ls then [] else [eLot l]) (ed_var rfl) (er_if (P := dA (.list (if l ∈ ls then [] else [eLot l]))) (et_test (ed_notInL (l := l) (ls := ls) (ed_var rfl) (ed_var rfl))) (fun q => ?_) (fun q => ?_)) ?_) ?_
            · exact ed_is (ed_lst (ea_cons (ed_var rfl) ea_nil) (show 1 ≤ sizeLine by decide)) (by rw [if_neg (by simpa using q)])
            · exact ed_is (ed_lst ea_nil (by decide)) (by rw [if_pos (by simpa using q)])
            · exact szl (by split <;> simp <;> omega)
            · split <;> simp
          refine hcat _ H8 _ rfl (h_no (h_no (h_no (h_no (h_ab hls8 (h_no (h_ab dv (h_no h_nil)))))))) fun v9 H9 e9 d9 => ?_
          refine kk _ _ ⟨if l ∈ ls then ls else ls ++ [l], n8, v9, _, _, _, rfl, mg8.same e9, by omega, ((fx6.trans fx7).trans fx8).trans (Fx.of_same e9), Dq.mono e9 _ _ hsq8, d9, ?_, ?_, ?_⟩
          · split
            · exact nd6
            · rename_i h
              rw [List.nodup_append]
              exact ⟨nd6, by simp, fun a ha b hb z => by simp at hb; subst hb z; exact h ha⟩
          · intro x hx'
            split at hx'
            · exact wf6 x hx'
            · rcases List.mem_append.mp hx' with z | z
              · exact wf6 x z
              · rw [List.mem_singleton.mp z]; exact hl
          · split
            · omega
            · simp; omega
      · rintro σ H ⟨ls, n', v4, a5, a6, a7, rfl, mg6, hn6, fx6, hsq6, hls6, nd6, wf6, len6⟩
        refine go_ret (S := [none, none, none, some (dA (eRow sz)), some (dA (.list (ls.map eLot))), none, none, none]) rfl (h_no (h_no (h_no (h_ab hsq6 (h_ab hls6 (h_no (h_no (h_no h_nil)))))))) (ed_tup (ea_cons (ed_var rfl) (ea_cons (ed_tupOf (ea_cons (ef_sorted eLot ls (ea_cons (ed_var rfl) ea_nil) (srt_lots fun l hl q => ?_) (fun l _ => by have := depth_lot l; omega)).ed ea_nil)) ea_nil)) (show 2 ≤ sizeLine by decide)) fun v H2 e2 dv => ?_
        · have := (wf6 l hl).1
          rw [q] at this
          simp at this
        · have hperm := List.mergeSort_perm ls (dataLe false eLot)
          refine hrt (sz, sortLots ls) v H2 n' ⟨wf, ?_, fun l hl => wf6 l (hperm.mem_iff.mp hl), asc_sort nd6⟩ dv (mg6.same e2) (by omega) (fx6.trans (Fx.of_same e2))
          show (ls.mergeSort _).length ≤ 6
          rw [List.length_mergeSort]
          omega
end Rn
end
section
set_option maxHeartbeats 4000000
namespace Rn
open PySem L2 PyProof.Rows PySem.W
variable {P : Program} {w : World} {K : PySem.W.Frag} {mg : Str → Option Value} {base : Heap}
theorem foldRows_ne : ∀ (sz : List Nat) (f : List Row), f ≠ [] → (∀ n ∈ sz, 1 ≤ n) → sz.foldl stepRows f ≠ []
  | [], _, h, _ => h
  | n :: sz, f, h, hn => foldRows_ne sz (stepRows f n) (fun q => by
      have e := stepRows_len f n
      rw [q] at e
      have h1 := hn n (by simp)
      cases f with
      | nil => exact h rfl
      | cons a f =>
        have := Nat.mul_pos (Nat.succ_pos f.length) h1
        simp only [List.length_nil, List.length_cons, Nat.succ_eq_add_one] at e this
        omega) fun x hx => hn x (by simp [hx])
theorem lay_row (r : Row) : (eRow r).canLay0 = true := canLays lay_eN r
theorem depth_row (r : Row) : (eRow r).depth ≤ 1 := by
  have q := depthAll_map (f := eN) (n := 0) (fun a => Nat.le_refl _) r
  show PyData.depthAll (r.map eN) + 1 ≤ 1
  omega
theorem rows_free {sz : List Nat} (h : SzWF sz) : rowsOf (sz, []) ≠ [] := by
  have e : rowsOf (sz, []) = allRows sz := by
    unfold rowsOf
    refine List.filter_eq_self.mpr fun r _ => rfl
  rw [e]
  exact foldRows_ne sz [[]] (by simp) fun n hn => by have := h.2.2 n hn; omega
/-! _law_good_rig -/
abbrev sGood : Stmt := top 71
theorem scGood : FnScope ["m", "most", "found"] ["m", "most"] (defScope sGood) := ⟨rfl, rfl, rfl, by decide +kernel, rfl, by decide +kernel, by decide +kernel⟩
def spGood : Sp := fun vs H Q _ => ∃ (m : Addr) (n : Nat), vs = [.ref m, .int 3] ∧ MG m n H ∧ n ≤ 800000 ∧ ∀ (g : Rig) v H' n', RigWF g → rowsOf g ≠ [] → Dq H' (eRig g) v → MG m n' H' → n' ≤ n + 40 → Fx [m] H H' → Q v H'
theorem ok_good (T : Tb mg) (D : Dn K mg "_law_good_rig" sGood ["m", "most"]) (W1 : Cal P w K mg base 5 "_law_rig" ["m", "most"] spRig) (W2 : Cal P w K mg base 2 "_law_rows" ["rig_so"] (spF RLRows)) : Cal P w K mg base 6 "_law_good_rig" ["m", "most"] spGood := by
  obtain ⟨f, fd, FF, b, mm⟩ := D
  refine ⟨f, fd, FF.ok scGood (fun vs H Q E h => ?_) (fun cdv A outer s H0 vs Q E hr h => ?_), FF.kp, b, mm⟩
  · obtain ⟨m, n, rfl, _⟩ := h
    rfl
  · obtain ⟨m, n, rfl, mg0, hn, hrt⟩ := h
    refine ⟨_, pss_cons (ps_asg (pe_cal W1 hr (pa_cons (pv 0) (pa_cons (pv 1) pa_nil))) (pg_one 2 scGood.nd))
      (pss_one (ps_ret (pe_ifExp (pt_cmpR (w_neD K hr) (pe_cal W2 hr (pa_cons (pv 2) pa_nil)) (pe_lst pa_nil) (nomark _)) (pv 2) (pe_tup (pa_cons (w_ixT K (pv 2) pe_int) (pa_cons (pe_tup pa_nil) pa_nil)))))), ?_⟩
    refine u_asg (u_call (u_cons (u_var rfl (u_cons (u_var rfl (u_nil ⟨m, n, rfl, mg0, hn, fun g v H1 n1 wf dv mg1 hn1 fx1 => ?_⟩))))))
    refine go_ret (S := [none, none, some (dA (eRig g))]) (P := dA (eRig (if rowsOf g = [] then (g.1, []) else g))) rfl (h_no (h_no (h_ab dv h_nil))) (er_if (P := dA (eRig (if rowsOf g = [] then (g.1, []) else g))) (et_test (ed_notNil (l := rowsOf g) (f := eRow) (Ef.ed (ef_call (ea_cons (ed_var rfl) ea_nil) ⟨g, rfl, wf, rfl⟩)) (ed_lst ea_nil (by decide)) lay_row (fun r => by have := depth_row r; omega))) (fun q => ?_) (fun q => ?_)) fun v2 H2 e2 d2 => ?_
    · rw [if_neg (by intro z; rw [z] at q; simp at q)]
      exact ed_var rfl
    · rw [if_pos (by simpa using q)]
      exact ed_tup (ds := [eRow g.1, .tuple []]) (ea_cons (ed_ixT (d := eRow g.1) (ds := [eRow g.1, eFl g.2]) (ed_var rfl) ed_int (by rfl)) (ea_cons (ed_tup ea_nil (by decide)) ea_nil)) (show 2 ≤ sizeLine by decide)
    · refine hrt _ v2 H2 n1 ?_ ?_ d2 (mg1.same e2) hn1 (fx1.trans (Fx.of_same e2))
      · split
        · exact ⟨wf.sz, Nat.zero_le _, fun l hl => by simp at hl, by simpa [Asc] using (⟨⟩ : True)⟩
        · exact wf
      · split
        · exact rows_free wf.sz
        · assumption
/-! _law_shape -/
abbrev sShape : Stmt := top 63
theorem scShape : FnScope ["m", "rig_so", "size", "many"] ["m", "rig_so"] (defScope sShape) := ⟨rfl, rfl, rfl, by decide +kernel, rfl, by decide +kernel, by decide +kernel⟩
def spShape : Sp := fun vs H Q _ => ∃ (m : Addr) (n : Nat) (g : Rig) (v : L2.V), vs = [.ref m, v] ∧ Dq H (eRig g) v ∧ RigWF g ∧ MG m n H ∧ n ≤ 800000 ∧ ∀ (s : Nat × Nat) v H' n', LawOk g s → Dq H' (eSh s) v → MG m n' H' → n' ≤ n + 2 → Fx [m] H H' → Q v H'
theorem ok_shape (T : Tb mg) (D : Dn K mg "_law_shape" sShape ["m", "rig_so"]) (W1 : Cal P w K mg base 2 "_law_draw" ["m", "limit"] spDraw) (W2 : Cal P w K mg base 3 "_law_lots" ["rig_so", "size"] (spA RLLots)) : Cal P w K mg base 4 "_law_shape" ["m", "rig_so"] spShape := by
  obtain ⟨f, fd, FF, b, mm⟩ := D
  refine ⟨f, fd, FF.ok scShape (fun vs H Q E h => ?_) (fun cdv A outer s H0 vs Q E hr h => ?_), FF.kp, b, mm⟩
  · obtain ⟨m, n, g, v, rfl, _⟩ := h
    rfl
  · obtain ⟨m, n, g, v0, rfl, dg, wf, mg0, hn, hrt⟩ := h
    refine ⟨_, pss_cons (ps_asg (pe_op op_add pe_int (pe_cal W1 hr (pa_cons (pv 0) (pa_cons (w_min T.min (pa_cons pe_int (pa_cons (w_len K T.len (pa_cons (w_ixT K (pv 1) pe_int) pa_nil)) pa_nil))) pa_nil)))) (pg_one 2 scShape.nd))
      (pss_cons (ps_asg (w_len K T.len (pa_cons (pe_cal W2 hr (pa_cons (pv 1) (pa_cons (pv 2) pa_nil))) pa_nil)) (pg_one 3 scShape.nd))
      (pss_one (ps_ret (pe_tup (pa_cons (pv 2) (pa_cons (pe_ifExp (pt_cmpR op_lt (pv 3) pe_int (nomark _)) (pe_op op_add pe_int (pe_cal W1 hr (pa_cons (pv 0) (pa_cons pe_int pa_nil)))) pe_int) pa_nil)))))), ?_⟩
    have l1 := wf.sz.1
    have l2 := wf.sz.2.1
    refine u_asg (go_draw1 (S := [some (vA (.ref m)), some (dA (eRig g)), none, none]) (lim := g.1.length) rfl (h_ab rfl (h_ab dg (h_no (h_no h_nil)))) rfl mg0 (ed_is (ed_min2 (ea_cons ed_int (ea_cons (ed_lenT (ds := g.1.map eN) (ea_cons (ed_ixT (d := eRow g.1) (ds := [eRow g.1, eFl g.2]) (ed_var rfl) ed_int (by rfl)) ea_nil)) ea_nil))) ?_) (by omega) (by omega) (by omega) fun k H1 hk1 hk2 mg1 fx1 => ?_)
    · rw [List.length_map]
      congr 1
      omega
    · have dg1 := Fx.dq (lots_nd mg0) fx1 dg
      refine go_asg (i := 3) (S := [some (vA (.ref m)), some (dA (eRig g)), some (dA (eN k)), none]) (P := dA (.int (((lawLots g k).length : Nat) : Int))) rfl (h_ab rfl (h_ab dg1 (h_ab rfl (h_no h_nil)))) (ed_is (ed_lenL (ds := (lawLots g k).map eLot) (ea_cons (er_call (ea_cons (ed_var rfl) (ea_cons (ed_var rfl) ea_nil)) ⟨g, k, rfl, wf, hk1, rfl⟩) ea_nil)) (by simp)) fun v2 H2 e2 d2 => ?_
      cases d2
      have mg2 := mg1.same e2
      have hfew := lots_few wf hk2
      rw [lots_same] at hfew
      have fin : ∀ (t n' : Nat) H', (t = 1 ∨ t = 2 ∧ (lawLots g k).length ≤ 24) → MG m n' H' → n' ≤ n + 2 → Fx [m] H2 H' → 2 ≤ sizeLine ∧ ∀ q, H' q = none → Q (.ref q) (upd H' q (.tup [.int (k : Nat), .int (t : Nat)])) := fun t n' H' ht mg' hn' fx' => ⟨by decide, fun q hq =>
        hrt (k, t) _ _ n' ⟨wf, hk1, hk2, hfew, ht⟩ ⟨q, _, rfl, upd_same, .cons rfl (.one rfl)⟩ (mg'.same (Same.new hq)) hn' (((fx1.trans (Fx.of_same e2)).trans fx').trans (Fx.of_same (Same.new hq)))⟩
      refine u_ret (u_cons (u_var rfl (u_cons (u_if (u_test (u_opR (u_var rfl ?_))))))) 
      refine ⟨_, _, rfl, rfl, _, rfl, ?_⟩
      cases hb : decide (((lawLots g k).length : Int) < 25) with
      | true =>
        have hb' := of_decide_eq_true hb
        exact iteT (go_draw1 (S := [some (vA (.ref m)), none, none, none]) (lim := 2) rfl (h_ab rfl (h_no (h_no (h_no h_nil)))) rfl mg2 ed_int (by omega) (by omega) (by omega) fun t H3 ht1 ht2 mg3 fx3 => u_nil (fin t _ H3 (by omega) mg3 (by omega) fx3))
      | false => exact iteF (fin 1 _ H2 (.inl rfl) mg2 (by omega) Fx.refl)
end Rn
end
section
set_option maxHeartbeats 4000000
/-! The class: what a bench is in a heap; its methods that change nothing. -/
namespace Rn
open PySem L2 PyProof.Rows PySem.W
/-- a method stands in the class -/
def Dm (K : PySem.W.Frag) (C : Addr) (x qual : Str) (st : Stmt) (ps : List Str) : Prop := ∃ (f : Addr) (fd : FuncData), Fun K x qual st f fd ∧ L2.Binds K fd ps [] ∧ Meth K C x f
def CalM (P : Program) (w : World) (K : PySem.W.Frag) (mg : Str → Option Value) (base : Heap) (k : Nat) (C : Addr) (x : Str) (ps : List Str) (sp : Sp) : Prop := ∃ (f : Addr) (fd : FuncData), FnOk P w K mg base CX0 k f fd ps sp ∧ L2.Binds K fd ps [] ∧ Meth K C x f
def Dp (K : PySem.W.Frag) (C : Addr) (x qual : Str) (st : Stmt) : Prop := ∃ (p f : Addr) (fd : FuncData), Fun K x qual st f fd ∧ L2.Binds K fd ["self"] [] ∧ PropOf K C x p f
def CalP (P : Program) (w : World) (K : PySem.W.Frag) (mg : Str → Option Value) (base : Heap) (k : Nat) (C : Addr) (x : Str) (sp : Sp) : Prop := ∃ (p f : Addr) (fd : FuncData), FnOk P w K mg base CX0 k f fd ["self"] sp ∧ L2.Binds K fd ["self"] [] ∧ PropOf K C x p f
section
variable {X : Cx} {k j : Nat} {C : Addr} {ps : List Str} {sp : Sp} {m : Str} {apos pos : Pos} {e o : Expr} {es : List Expr} {ta : TE} {t : TA}
theorem pe_m (c : CalM X.prog X.w X.K X.mg X.base k C m ps sp) (cl : Cls X.K C) (hr : Room j X.A) (he : PE X o ta) (ha : PA X (e :: es) t) {pl : Sem Bool} (hkj : k ≤ j := by decide)
    (hst : starEach (e :: es) X.env = (false, eval e X.env) :: starEach es X.env := by rfl) (hpl : (backTo pos (starEach es X.env)).any (·.1) = false := by rfl)
    (ht : eval (.Call (.Attribute o m apos) (e :: es) [] pos) X.env = (do
      let ov ← eval o X.env
      standAt apos.atName
      let (f, first) ← holding [ov] (getMethod ov m pl)
      callWith pos f first (backTo pos (starEach (e :: es) X.env)) (backToKw pos (keywordEach [] X.env))) := by rfl) : PE X (.Call (.Attribute o m apos) (e :: es) [] pos) (tMeth C m sp [] E0 ta t) := by
  obtain ⟨f, fd, F, b, mm⟩ := c
  exact pe_meth he cl mm F (hr.mono hkj) b .nil pass0 ha hst hpl ht
theorem pe_m0 (c : CalM X.prog X.w X.K X.mg X.base k C m ps sp) (cl : Cls X.K C) (hr : Room j X.A) (he : PE X o ta) {pl : Sem Bool} (hkj : k ≤ j := by decide)
    (ht : eval (.Call (.Attribute o m apos) [] [] pos) X.env = (do
      let ov ← eval o X.env
      standAt apos.atName
      let (f, first) ← holding [ov] (getMethod ov m pl)
      callWith pos f first (backTo pos (starEach [] X.env)) (backToKw pos (keywordEach [] X.env))) := by rfl) : PE X (.Call (.Attribute o m apos) [] [] pos) (tMeth C m sp [] E0 ta tNil) := by
  obtain ⟨f, fd, F, b, mm⟩ := c
  exact pe_meth0 he cl mm F (hr.mono hkj) b .nil pass0 ht
theorem pe_p (c : CalP X.prog X.w X.K X.mg X.base k C m sp) (cl : Cls X.K C) (hr : Room j X.A) (he : PE X e ta) (hkj : k + 1 ≤ j := by decide) (hab : attributeBase e m X.env (eval e X.env) = eval e X.env := by rfl) : PE X (.Attribute e m pos) (tProp C sp [] E0 ta) := by
  obtain ⟨p, f, fd, F, b, mm⟩ := c
  exact pe_prop he cl mm F (hr.mono hkj) b .nil pass0 hab
/-- len of an instance that has a __len__ -/
def rLenM (C : Addr) (sp : Sp) : List L2.V → Hp → VK → Prop := fun xs H Q => ∃ a dx fs, xs = [.ref a] ∧ H a = some (.ins C dx fs) ∧ sp [.ref a] H (fun z H' => ∃ i : Nat, z = .int (i : Nat) ∧ i ≤ 1000000 ∧ Q z H') E0
theorem call_lenM (c : CalM X.prog X.w X.K X.mg X.base k C "__len__" ["self"] sp) (hr : Room (k + 1) X.A) : CallR X (.builtin "len") (rLenM C sp) := by
  obtain ⟨f, fd, F, b, mm⟩ := c
  intro pins s σ H xs us Q I r h
  obtain ⟨a, dx, fs, rfl, ea, q⟩ := h
  obtain ⟨u, rfl, ru⟩ := r.one
  cases (show u = Value.ref a from ru)
  obtain ⟨mA, O, _, _, _, _⟩ := ins_get I.hok ea
  obtain ⟨od, J, _⟩ := O.look
  obtain ⟨m1, hF⟩ := I.fr
  refine PySem.W.len_K hF I.ok.mod.kin J mm.at_ mm.fn (wpAny_call (codeAny_mono (F.run X.A.in1 X.stack s H ⟨[.ref a], []⟩ [.ref a] [.ref a] _ E0 hr.in1 I.env0.in1 (b s [.ref a] I.kIn rfl) (.cons rfl .nil) q) fun r s' hq => ?_))
  cases r with
  | error e => exact hq.elim
  | ok fl =>
    cases fl with
    | ret u =>
      obtain ⟨v, H', I', rv, i, ei, hi, qz⟩ := I.after hq
      subst ei
      obtain ⟨t, e⟩ := (show ∃ t, u = Value.int (i : Nat) t from rv)
      cases e
      exact ⟨⟨by omega, by have : (1000000 : Int) < 2 ^ 63 := by decide
                           omega⟩, .int (i : Nat), H', I'.tok _, ⟨_, rfl⟩, qz⟩
    | next => exact hq.elim
    | brk => exact hq.elim
    | cont => exact hq.elim
theorem w_lenM (c : CalM X.prog X.w X.K X.mg X.base k C "__len__" ["self"] sp) (hr : Room j X.A) (hm : X.mg "len" = none) (ha : PA X [e] t) (hkj : k + 1 ≤ j := by decide) (hg : Gl X "len" := by rfl) (he : starEach [e] X.env = (false, eval e X.env) :: starEach [] X.env := by rfl) {p : Pos} :
    PE X (.Call (.Name "len" p) [e] [] pos) (tCB (rLenM C sp) t) := pe_callB (call_lenM c (hr.mono hkj)) hg hm PySem.boot_len ha (he := he)
end

/-! ### the bench -/
structure Bx (K : PySem.W.Frag) (mg : Str → Option Value) (C : Addr) : Prop where
  cl : Cls K C
  nRig : NoAttr K C "own_rig"
  nShape : NoAttr K C "own_shape"
  nPast : NoAttr K C "past"
  nLater : NoAttr K C "later"
  at_ : mg "Bench" = some (.ref C)
abbrev bfs (a b c d : L2.V) : List (Str × L2.V) := [("own_rig", a), ("own_shape", b), ("past", c), ("later", d)]
section
variable {a b c d v : L2.V}
theorem bl_rig : (bfs a b c d).lookup ("own_rig" : Str) = some a := by kernel_rfl
theorem bl_shape : (bfs a b c d).lookup ("own_shape" : Str) = some b := by kernel_rfl
theorem bl_past : (bfs a b c d).lookup ("past" : Str) = some c := by kernel_rfl
theorem bl_later : (bfs a b c d).lookup ("later" : Str) = some d := by kernel_rfl
theorem bp_past : putF "past" v (bfs a b c d) = bfs a b v d := by kernel_rfl
theorem bp_later : putF "later" v (bfs a b c d) = bfs a b c v := by kernel_rfl
theorem bp_new : putF "later" d (putF "past" c (putF "own_shape" b (putF "own_rig" a []))) = bfs a b c d := by kernel_rfl
theorem bn_left : (bfs a b c d).lookup ("left" : Str) = none := by kernel_rfl
theorem bn_heads : (bfs a b c d).lookup ("heads" : Str) = none := by kernel_rfl
theorem bn_run : (bfs a b c d).lookup ("run" : Str) = none := by kernel_rfl
theorem bn_undo : (bfs a b c d).lookup ("undo" : Str) = none := by kernel_rfl
theorem bn_redo : (bfs a b c d).lookup ("redo" : Str) = none := by kernel_rfl
end
/-- at x stands a bench of that rig and shape with that past and later -/
def BenchAt (C : Addr) (H : Hp) (x : Addr) (g : Rig) (s : Nat × Nat) (past later : Log) : Prop := ∃ dx va vb vc vd, H x = some (.ins C dx (bfs va vb vc vd)) ∧ Dq H (eRig g) va ∧ Dq H (eSh s) vb ∧ Dq H (eLog past) vc ∧ Dq H (eLog later) vd
theorem BenchAt.mono {C : Addr} {H H' : Hp} {x : Addr} {g : Rig} {s : Nat × Nat} {past later : Log} (e : Same H H') (h : BenchAt C H x g s past later) : BenchAt C H' x g s past later :=
  let ⟨dx, va, vb, vc, vd, h1, h2, h3, h4, h5⟩ := h
  ⟨dx, va, vb, vc, vd, e _ _ h1, Dq.mono e _ _ h2, Dq.mono e _ _ h3, Dq.mono e _ _ h4, Dq.mono e _ _ h5⟩
structure BOk (g : Rig) (s : Nat × Nat) (past later : Log) : Prop where
  game : GameOk g s
  few : past.length + later.length ≤ 40
  on1 : ∀ p ∈ past, p.1 ∈ rowsOf g
  on2 : ∀ p ∈ later, p.1 ∈ rowsOf g
theorem BOk.log {g : Rig} {s : Nat × Nat} {past later : Log} (h : BOk g s past later) : LogOk g past := ⟨by have := h.few; omega, h.on1⟩
def bnA (C : Addr) (g : Rig) (s : Nat × Nat) (past later : Log) : Ab := ⟨fun v H => ∃ x, v = .ref x ∧ BenchAt C H x g s past later, fun v _ _ e h => let ⟨x, q, z⟩ := h; ⟨x, q, z.mono e⟩⟩
section
variable {K : PySem.W.Frag} {mg : Str → Option Value} {C : Addr} {g : Rig} {s : Nat × Nat} {past later : Log} {te : TE} {S : Sto}
theorem ed_bRig (B : Bx K mg C) (h : Er te S (bnA C g s past later)) : Ed (tFld K te "own_rig") S (eRig g) := fun σ H Q hl hh k => h σ H _ hl hh fun v H1 e1 p => by
  obtain ⟨x, rfl, dx, va, vb, vc, vd, h1, h2, h3, h4, h5⟩ := p
  exact ⟨x, C, dx, _, va, rfl, h1, B.cl, B.nRig, bl_rig, k va H1 e1 h2⟩
theorem ed_bShape (B : Bx K mg C) (h : Er te S (bnA C g s past later)) : Ed (tFld K te "own_shape") S (eSh s) := fun σ H Q hl hh k => h σ H _ hl hh fun v H1 e1 p => by
  obtain ⟨x, rfl, dx, va, vb, vc, vd, h1, h2, h3, h4, h5⟩ := p
  exact ⟨x, C, dx, _, vb, rfl, h1, B.cl, B.nShape, bl_shape, k vb H1 e1 h3⟩
theorem ed_bPast (B : Bx K mg C) (h : Er te S (bnA C g s past later)) : Ed (tFld K te "past") S (eLog past) := fun σ H Q hl hh k => h σ H _ hl hh fun v H1 e1 p => by
  obtain ⟨x, rfl, dx, va, vb, vc, vd, h1, h2, h3, h4, h5⟩ := p
  exact ⟨x, C, dx, _, vc, rfl, h1, B.cl, B.nPast, bl_past, k vc H1 e1 h4⟩
theorem ed_bLater (B : Bx K mg C) (h : Er te S (bnA C g s past later)) : Ed (tFld K te "later") S (eLog later) := fun σ H Q hl hh k => h σ H _ hl hh fun v H1 e1 p => by
  obtain ⟨x, rfl, dx, va, vb, vc, vd, h1, h2, h3, h4, h5⟩ := p
  exact ⟨x, C, dx, _, vd, rfl, h1, B.cl, B.nLater, bl_later, k vd H1 e1 h5⟩
end
/-- what a method without arguments tells, that changes nothing -/
def spB0 (C : Addr) (val : Rig → Nat × Nat → Log → PyData) : Sp := fun vs H Q _ => ∃ x g s past later, vs = [.ref x] ∧ BenchAt C H x g s past later ∧ BOk g s past later ∧ ∀ v H', Same H H' → Dq H' (val g s past) v → Q v H'
section
variable {P : Program} {w : World} {K : PySem.W.Frag} {mg : Str → Option Value} {base : Heap} {C : Addr}
theorem m0_ok {x qual : Str} {st : Stmt} {f : Addr} {fd : FuncData} {k : Nat} {val : Rig → Nat × Nat → Log → PyData} (F : Fun K x qual st f fd) (S : FnScope ["self"] ["self"] (defScope st))
    (told : ∀ (cdv : Value) (A : Around) (outer : List Env) (s : Shared) (H : Hp) (E : XK), Room k (A.deeper (envOfC qual (defScope st) s.heap.objs.size f cdv)) →
      ∃ te, PSs (cxOf CX0 P w K mg base ["self"] qual (defScope st) f cdv A outer s H E).nox (defBody st) (tRet te) ∧ ∀ g sh past later, BOk g sh past later → Ed te [some (bnA C g sh past later)] (val g sh past)) : FnOk P w K mg base CX0 (k + 1) f fd ["self"] (spB0 C val) := by
  refine F.ok S (fun vs H Q E h => ?_) (fun cdv A outer s H vs Q E hr h => ?_)
  · obtain ⟨x, g, sh, past, later, rfl, _⟩ := h
    rfl
  · obtain ⟨x, g, sh, past, later, rfl, hb, ok, k⟩ := h
    obtain ⟨te, hp, he⟩ := told cdv A outer s H E hr
    exact ⟨_, hp, go_ret (S := [some (bnA C g sh past later)]) rfl (h_ab (A := bnA C g sh past later) ⟨x, rfl, hb⟩ h_nil) (he g sh past later ok) fun v H' e d => k v H' e d⟩
abbrev mRig : Stmt := inClass (top 44) 1
abbrev mShape : Stmt := inClass (top 44) 2
abbrev mLog : Stmt := inClass (top 44) 3
abbrev mLen : Stmt := inClass (top 44) 4
abbrev mLeft : Stmt := inClass (top 44) 5
abbrev mHeads : Stmt := inClass (top 44) 6
theorem scmRig : FnScope ["self"] ["self"] (defScope mRig) := ⟨rfl, rfl, rfl, by decide +kernel, rfl, by decide +kernel, by decide +kernel⟩
theorem scmShape : FnScope ["self"] ["self"] (defScope mShape) := ⟨rfl, rfl, rfl, by decide +kernel, rfl, by decide +kernel, by decide +kernel⟩
theorem scmLog : FnScope ["self"] ["self"] (defScope mLog) := ⟨rfl, rfl, rfl, by decide +kernel, rfl, by decide +kernel, by decide +kernel⟩
theorem scmLen : FnScope ["self"] ["self"] (defScope mLen) := ⟨rfl, rfl, rfl, by decide +kernel, rfl, by decide +kernel, by decide +kernel⟩
theorem scmLeft : FnScope ["self"] ["self"] (defScope mLeft) := ⟨rfl, rfl, rfl, by decide +kernel, rfl, by decide +kernel, by decide +kernel⟩
theorem scmHeads : FnScope ["self"] ["self"] (defScope mHeads) := ⟨rfl, rfl, rfl, by decide +kernel, rfl, by decide +kernel, by decide +kernel⟩
theorem ok_mRig (B : Bx K mg C) (D : Dp K C "rig" "Bench.rig" mRig) : CalP P w K mg base 1 C "rig" (spB0 C fun g _ _ => eRig g) := by
  obtain ⟨p, f, fd, F, b, mm⟩ := D
  exact ⟨p, f, fd, m0_ok F scmRig fun cdv A outer s H E hr => ⟨_, pss_one (ps_ret (pe_fld (pv 0) rfl)), fun g sh past later ok => ed_bRig B (ed_var rfl)⟩, b, mm⟩
theorem ok_mShape (B : Bx K mg C) (D : Dp K C "shape" "Bench.shape" mShape) : CalP P w K mg base 1 C "shape" (spB0 C fun _ s _ => eSh s) := by
  obtain ⟨p, f, fd, F, b, mm⟩ := D
  exact ⟨p, f, fd, m0_ok F scmShape fun cdv A outer s H E hr => ⟨_, pss_one (ps_ret (pe_fld (pv 0) rfl)), fun g sh past later ok => ed_bShape B (ed_var rfl)⟩, b, mm⟩
theorem ok_mLog (B : Bx K mg C) (D : Dp K C "log" "Bench.log" mLog) : CalP P w K mg base 1 C "log" (spB0 C fun _ _ past => eLog past) := by
  obtain ⟨p, f, fd, F, b, mm⟩ := D
  exact ⟨p, f, fd, m0_ok F scmLog fun cdv A outer s H E hr => ⟨_, pss_one (ps_ret (pe_fld (pv 0) rfl)), fun g sh past later ok => ed_bPast B (ed_var rfl)⟩, b, mm⟩
theorem ok_mLen (T : Tb mg) (B : Bx K mg C) (D : Dm K C "__len__" "Bench.__len__" mLen ["self"]) : CalM P w K mg base 1 C "__len__" ["self"] (spB0 C fun _ _ past => .int (past.length : Nat)) := by
  obtain ⟨f, fd, F, b, mm⟩ := D
  exact ⟨f, fd, m0_ok F scmLen fun cdv A outer s H E hr => ⟨_, pss_one (ps_ret (w_len K T.len (pa_cons (pe_fld (pv 0) rfl) pa_nil))), fun g sh past later ok => ed_is (ed_lenT (ds := past.map eOut) (ea_cons (ed_bPast B (ed_var rfl)) ea_nil)) (by simp)⟩, b, mm⟩
theorem ok_mLeft (T : Tb mg) (B : Bx K mg C) (D : Dm K C "left" "Bench.left" mLeft ["self"]) (W : Cal P w K mg base 6 "left_of" ["rig", "shape", "log"] (spA RLeft)) : CalM P w K mg base 7 C "left" ["self"] (spB0 C fun g s past => .tuple ((leftOf g s past).map eFl)) := by
  obtain ⟨f, fd, F, b, mm⟩ := D
  exact ⟨f, fd, m0_ok F scmLeft fun cdv A outer s H E hr => ⟨_, pss_one (ps_ret (w_tuple K T.tuple (pa_cons (pe_cal W hr (pa_cons (pe_fld (pv 0) rfl) (pa_cons (pe_fld (pv 0) rfl) (pa_cons (pe_fld (pv 0) rfl) pa_nil)))) pa_nil))),
    fun g sh past later ok => ed_tupOf (ea_cons (er_call (ea_cons (ed_bRig B (ed_var rfl)) (ea_cons (ed_bShape B (ed_var rfl)) (ea_cons (ed_bPast B (ed_var rfl)) ea_nil))) ⟨g, sh, past, rfl, ok.game, ok.log, rfl⟩) ea_nil)⟩, b, mm⟩
theorem ok_mHeads (T : Tb mg) (B : Bx K mg C) (D : Dm K C "heads" "Bench.heads" mHeads ["self"]) (W : Cal P w K mg base 7 "heads_left" ["rig", "shape", "log"] (spA RHeads)) : CalM P w K mg base 8 C "heads" ["self"] (spB0 C fun g s past => .tuple ((headsLeft g s past).map eFl)) := by
  obtain ⟨f, fd, F, b, mm⟩ := D
  exact ⟨f, fd, m0_ok F scmHeads fun cdv A outer s H E hr => ⟨_, pss_one (ps_ret (w_tuple K T.tuple (pa_cons (w_ixT K (pe_cal W hr (pa_cons (pe_fld (pv 0) rfl) (pa_cons (pe_fld (pv 0) rfl) (pa_cons (pe_fld (pv 0) rfl) pa_nil)))) pe_int) pa_nil))),
    fun g sh past later ok => ed_tupOf (ea_cons (ed_ixT (ds := [.list ((rowsOf g).map eRow), .list ((headsLeft g sh past).map eFl)]) (er_call (ea_cons (ed_bRig B (ed_var rfl)) (ea_cons (ed_bShape B (ed_var rfl)) (ea_cons (ed_bPast B (ed_var rfl)) ea_nil))) ⟨g, sh, past, rfl, ok.game, ok.log, faults_esrt g sh, rfl⟩) ed_int (by rfl)) ea_nil)⟩, b, mm⟩
end
end Rn
end
section
set_option maxHeartbeats 4000000
/-! The methods that change the bench. -/
namespace Rn
open PySem L2 PyProof.Rows PySem.W
/-! past and later -/
def goBack (p : Log × Log) : Log × Log := (p.1.dropLast, p.1.drop (p.1.length - 1) ++ p.2)
def goOn (p : Log × Log) : Log × Log := (p.1 ++ p.2.take 1, p.2.drop 1)
theorem six_neg (n d : Nat) : HT.sIx n d (some (-1)) = n - 1 := by
  show (if (-1 : Int) < 0 then ((-1 : Int) + (n : Int)).toNat else min (-1 : Int).toNat n) = _
  rw [if_pos (by decide)]
  omega
theorem six_one (n d : Nat) : HT.sIx n d (some 1) = min 1 n := HT.sIx_nat n d 1
theorem cut_init (ds : List PyData) : cutD ds none (some (-1)) = ds.dropLast := by
  unfold cutD
  rw [HT.sIx_none, six_neg, List.drop_zero, Nat.sub_zero, List.dropLast_eq_take]
theorem cut_last (ds : List PyData) : cutD ds (some (-1)) none = ds.drop (ds.length - 1) := by
  unfold cutD
  rw [HT.sIx_none, six_neg, List.take_of_length_le (by rw [List.length_drop]; omega)]
theorem cut_head (ds : List PyData) : cutD ds none (some 1) = ds.take 1 := by
  unfold cutD
  rw [HT.sIx_none, six_one, List.drop_zero, Nat.sub_zero]
  cases ds with
  | nil => rfl
  | cons a ds => simp
theorem cut_tail (ds : List PyData) : cutD ds (some 1) none = ds.drop 1 := by
  unfold cutD
  rw [HT.sIx_none, six_one]
  cases ds with
  | nil => rfl
  | cons a ds => simp
theorem lay_out (p : Row × Bool) : (eOut p).canLay0 = true := by
  show ((eRow p.1).canLay0 && PyData.canLayAll0 [.bool p.2]) = true
  rw [lay_row]
  rfl
theorem depth_out (p : Row × Bool) : (eOut p).depth ≤ 2 := by
  have := depth_row p.1
  show max (eRow p.1).depth (PyData.depthAll [.bool p.2]) + 1 ≤ 2
  have : PyData.depthAll [.bool p.2] = 0 := rfl
  omega
theorem shaped_tup {α : Type} {f : α → PyData} (h : ∀ a, (f a).canLay0 = true) (hd : ∀ a, (f a).depth ≤ 60) (l : List α) : SeqAt.shaped (.tuple (l.map f)) = true := by
  unfold SeqAt.shaped
  have q := depthAll_map hd l
  rw [Bool.and_eq_true]
  exact ⟨canLays h l, decide_eq_true (by show PyData.depthAll (l.map f) + 1 ≤ 64; omega)⟩
theorem shaped_log (l : Log) : SeqAt.shaped (eLog l) = true := shaped_tup lay_out (fun p => by have := depth_out p; omega) l
theorem shaped_nilT : SeqAt.shaped (.tuple []) = true := by decide
section
variable {K : PySem.W.Frag} {S : Sto} {ta tb te : TE}
theorem ed_logNil {l : Log} (ha : Ed ta S (eLog l)) (hb : Ed tb S (.tuple [])) : Ed (tOp (rEqD K) ta tb) S (.bool l.isEmpty) := by
  refine ed_is (ed_eqD ha hb (shaped_log l) shaped_nilT) ?_
  show PyData.bool (PyData.eqvAll (l.map eOut) []) = _
  rw [eqvAll_nil, List.isEmpty_map]
theorem ed_logNot {l : Log} (ha : Ed ta S (eLog l)) (hb : Ed tb S (.tuple [])) : Ed (tOp (rNeD K) ta tb) S (.bool (!l.isEmpty)) := by
  refine ed_is (ed_neD ha hb (shaped_log l) shaped_nilT) ?_
  show PyData.bool (!PyData.eqvAll (l.map eOut) []) = _
  rw [eqvAll_nil, List.isEmpty_map]
theorem ed_neg {i : Int} (h : Ed te S (.int i)) : Ed (tUn (rU fun i => .int (-i)) te) S (.int (-i)) := fun σ H Q hl hh k => h σ H _ hl hh fun v H1 e1 p => ⟨i, p, k _ H1 e1 rfl⟩
end
/-- all but that stays, the law's own lists too -/
def Fz (ms : List Addr) (H H' : Hp) : Prop := ∀ b u, b ∉ ms → H b = some u → H' b = some u
theorem Fz.fx {ms : List Addr} {H H' : Hp} (e : Fz ms H H') : Fx ms H H' := fun b u h1 _ h => e b u h1 h
theorem Fz.of_same {ms : List Addr} {H H' : Hp} (e : Same H H') : Fz ms H H' := fun b u _ h => e b u h
theorem Fz.trans {ms : List Addr} {H H1 H2 : Hp} (a : Fz ms H H1) (b : Fz ms H1 H2) : Fz ms H H2 := fun c u h1 h => b c u h1 (a c u h1 h)
theorem MG.fz {ms : List Addr} {m : Addr} {n : Nat} {H H' : Hp} (h : MG m n H) (e : Fz ms H H') (hm : m ∉ ms) (ho : ∀ a ∈ ms, ∃ u, H a = some u ∧ ∀ φ, u ≠ HO.ext φ) : MG m n H' := by
  obtain ⟨c, g, kvs, cs, gs, h1, h2, h3, h4, h5, h6, h7, h8, h9, h10⟩ := h
  have nc : ∀ a xs, H a = some (gl a xs) → a ∉ ms := fun a xs ha q => by
    obtain ⟨u, hu, hn⟩ := ho a q
    rw [ha] at hu
    exact hn _ (Option.some.inj hu).symm
  exact ⟨c, g, kvs, cs, gs, e _ _ hm h1, h2, h3, h4, h5, e _ _ (nc _ _ h6) h6, h7, e _ _ (nc _ _ h8) h8, h9, h10⟩
/-! that bench itself -/
def bnX (C x : Addr) (g : Rig) (s : Nat × Nat) (past later : Log) : Ab := ⟨fun v H => v = .ref x ∧ BenchAt C H x g s past later, fun v _ _ e h => ⟨h.1, h.2.mono e⟩⟩
section
variable {K : PySem.W.Frag} {mg : Str → Option Value} {C x : Addr} {g : Rig} {s : Nat × Nat} {past later p2 : Log} {te : TE} {S : Sto} {H : Hp} {y : L2.V}
theorem er_bn (h : Er te S (bnX C x g s past later)) : Er te S (bnA C g s past later) := fun σ H Q hl hh k => h σ H _ hl hh fun v H1 e1 p => k v H1 e1 ⟨x, p.1, p.2⟩
theorem fx_upd {o : HO} : Fx [x] H (upd H x o) := fun b u hb _ hbu => by
  rw [upd_ne (fun z => hb (by rw [z]; exact List.mem_singleton.mpr rfl))]
  exact hbu
theorem fz_upd {o : HO} : Fz [x] H (upd H x o) := fun b u hb hbu => by
  rw [upd_ne (fun z => hb (by rw [z]; exact List.mem_singleton.mpr rfl))]
  exact hbu
theorem oth_one {a : Addr} (h : Oth H a) : ∀ b ∈ [a], Oth H b := fun b hb => by rw [List.mem_singleton.mp hb]; exact h
theorem BenchAt.oth (h : BenchAt C H x g s past later) : Oth H x := let ⟨_, _, _, _, _, h1, _⟩ := h; Oth.ins h1
theorem BenchAt.putPast (h : BenchAt C H x g s past later) (hy : Dq H (eLog p2) y) : ∃ dx fs, H x = some (.ins C dx fs) ∧ fs.length < 1000 ∧ BenchAt C (upd H x (.ins C dx (putF "past" y fs))) x g s p2 later := by
  have ho := oth_one h.oth
  obtain ⟨dx, va, vb, vc, vd, h1, h2, h3, h4, h5⟩ := h
  exact ⟨dx, _, h1, (by show 4 < 1000; decide), dx, va, vb, y, vd, by rw [bp_past, upd_same], Fx.dq ho fx_upd h2, Fx.dq ho fx_upd h3, Fx.dq ho fx_upd hy, Fx.dq ho fx_upd h5⟩
theorem BenchAt.putLater (h : BenchAt C H x g s past later) (hy : Dq H (eLog p2) y) : ∃ dx fs, H x = some (.ins C dx fs) ∧ fs.length < 1000 ∧ BenchAt C (upd H x (.ins C dx (putF "later" y fs))) x g s past p2 := by
  have ho := oth_one h.oth
  obtain ⟨dx, va, vb, vc, vd, h1, h2, h3, h4, h5⟩ := h
  exact ⟨dx, _, h1, (by show 4 < 1000; decide), dx, va, vb, vc, y, by rw [bp_later, upd_same], Fx.dq ho fx_upd h2, Fx.dq ho fx_upd h3, Fx.dq ho fx_upd h4, Fx.dq ho fx_upd hy⟩
/-- a field of the slot 0 is set -/
theorem go_fld {u : TS} {D : Ends} {σ : L2.St} {P : Ab} {f : Str} (hl : σ.length = S.length) (hh : Hold H S σ) (h0 : σ[0]? = some (some (.ref x))) (h : Er te S P) (cl : Cls K C) (na : NoAttr K C f)
    (k : ∀ y H1, Same H H1 → P.p y H1 → ∃ dx fs, H1 x = some (.ins C dx fs) ∧ fs.length < 1000 ∧ u D σ (upd H1 x (.ins C dx (putF f y fs)))) : tSeq (sFld K (tVar 0) te f) u D σ H := h σ H _ hl hh fun y H1 e1 p => by
  obtain ⟨dx, fs, h1, h2, h3⟩ := k y H1 e1 p
  exact ⟨.ref x, h0, x, C, dx, fs, rfl, h1, cl, na, h2, h3⟩
theorem go_fldZ {D : Ends} {σ : L2.St} {P : Ab} {f : Str} (hl : σ.length = S.length) (hh : Hold H S σ) (h0 : σ[0]? = some (some (.ref x))) (h : Er te S P) (cl : Cls K C) (na : NoAttr K C f)
    (k : ∀ y H1, Same H H1 → P.p y H1 → ∃ dx fs, H1 x = some (.ins C dx fs) ∧ fs.length < 1000 ∧ D.nx σ (upd H1 x (.ins C dx (putF f y fs)))) : sFld K (tVar 0) te f D σ H := h σ H _ hl hh fun y H1 e1 p => by
  obtain ⟨dx, fs, h1, h2, h3⟩ := k y H1 e1 p
  exact ⟨.ref x, h0, x, C, dx, fs, rfl, h1, cl, na, h2, h3⟩
theorem hold_one {σ : L2.St} {A : Ab} {v : L2.V} (n : Nat) (h : σ[0]? = some (some v)) (hp : A.p v H) : Hold H (some A :: List.replicate n none) σ := fun i P hi => by
  cases i with
  | zero => simp at hi; subst hi; exact ⟨v, h, hp⟩
  | succ i =>
    rw [List.getElem?_cons_succ, List.getElem?_replicate] at hi
    split at hi <;> cases hi
/-- what its methods tell, in a method's own text -/
theorem ed_m0 {m : Str} {val : Rig → Nat × Nat → Log → PyData} (h : Er te S (bnA C g s past later)) (ok : BOk g s past later) (nl : ∀ a b c d, (bfs a b c d).lookup m = none) : Ed (tMeth C m (spB0 C val) [] E0 te tNil) S (val g s past) := fun σ H Q hl hh k => h σ H _ hl hh fun v H1 e1 p => by
  obtain ⟨x, rfl, hb⟩ := p
  obtain ⟨dx, va, vb, vc, vd, h1, _⟩ := id hb
  exact ⟨x, dx, _, rfl, h1, nl _ _ _ _, x, g, s, past, later, rfl, hb, ok, fun v H' e d => k v H' (e1.trans e) d⟩
theorem ed_p0 {val : Rig → Nat × Nat → Log → PyData} (h : Er te S (bnA C g s past later)) (ok : BOk g s past later) : Ed (tProp C (spB0 C val) [] E0 te) S (val g s past) := fun σ H Q hl hh k => h σ H _ hl hh fun v H1 e1 p => by
  obtain ⟨x, rfl, hb⟩ := p
  obtain ⟨dx, va, vb, vc, vd, h1, _⟩ := id hb
  exact ⟨x, dx, _, rfl, h1, x, g, s, past, later, rfl, hb, ok, fun v H' e d => k v H' (e1.trans e) d⟩
theorem ed_lenM (h : Er te S (bnA C g s past later)) (ok : BOk g s past later) : Ed (tCB (rLenM C (spB0 C fun _ _ past => .int (past.length : Nat))) (tCons te tNil)) S (.int (past.length : Nat)) := fun σ H Q hl hh k => h σ H _ hl hh fun v H1 e1 p => by
  obtain ⟨x, rfl, hb⟩ := p
  obtain ⟨dx, va, vb, vc, vd, h1, _⟩ := id hb
  exact ⟨x, dx, _, rfl, h1, x, g, s, past, later, rfl, hb, ok, fun v H' e d => by cases d; exact ⟨past.length, rfl, by have := ok.few; omega, k _ H' (e1.trans e) rfl⟩⟩
end

section
variable {P : Program} {w : World} {K : PySem.W.Frag} {mg : Str → Option Value} {base : Heap} {C : Addr}
/-! made -/
abbrev mInit : Stmt := inClass (top 44) 0
theorem scmInit : FnScope ["self", "rig", "shape"] ["self", "rig", "shape"] (defScope mInit) := ⟨rfl, rfl, rfl, by decide +kernel, rfl, by decide +kernel, by decide +kernel⟩
def spInit (C : Addr) : Sp := fun vs H Q _ => ∃ x dx g s vg vs', vs = [.ref x, vg, vs'] ∧ H x = some (.ins C dx []) ∧ Dq H (eRig g) vg ∧ Dq H (eSh s) vs' ∧ GameOk g s ∧ ShWF g s ∧ ∀ H', BenchAt C H' x g s [] [] → Fz [x] H H' → Q .non H'
theorem ok_mInit (B : Bx K mg C) {f : Addr} {fd : FuncData} (F : Fun K "__init__" "Bench.__init__" mInit f fd) (W1 : Cal P w K mg base 5 "need_rig" ["rig"] (spA RNeedRig)) (W2 : Cal P w K mg base 6 "need_shape" ["rig", "shape"] (spA RNeedShape)) (W3 : Cal P w K mg base 6 "left_of" ["rig", "shape", "log"] (spA RLeft)) :
    FnOk P w K mg base CX0 7 f fd ["self", "rig", "shape"] (spInit C) := by
  refine F.ok scmInit (fun vs H Q E h => ?_) (fun cdv A outer s H0 vs Q E hr h => ?_)
  · obtain ⟨x, dx, g, s, vg, vs', rfl, _⟩ := h
    rfl
  · obtain ⟨x, dx, g, sh, vg, vs', rfl, hx, dg, ds, ok, shw, k⟩ := h
    refine ⟨_, pss_cons (ps_expr (pe_cal W1 hr (pa_cons (pv 1) pa_nil))) (pss_cons (ps_expr (pe_cal W2 hr (pa_cons (pv 1) (pa_cons (pv 2) pa_nil)))) (pss_cons (ps_expr (pe_cal W3 hr (pa_cons (pv 1) (pa_cons (pv 2) (pa_cons (pe_tup pa_nil) pa_nil)))))
      (pss_cons (ps_fld (pv 0) (pv 1) rfl) (pss_cons (ps_fld (pv 0) (pv 2) rfl) (pss_cons (ps_fld (pv 0) (pe_tup pa_nil) rfl) (pss_one (ps_fld (pv 0) (pe_tup pa_nil) rfl))))))), ?_⟩
    have hxo := oth_one (Oth.ins hx)
    refine go_nx (S := [some (vA (.ref x)), some (dA (eRig g)), some (dA (eSh sh))]) rfl (h_ab rfl (h_ab dg (h_ab ds h_nil))) (nx_drop (P := dA (eRig g)) (er_call (ea_cons (ed_var rfl) ea_nil) ⟨g, rfl, ok.rig, rfl⟩)) fun σ1 H1 l1 e1 g1 => ?_
    refine go_nx l1 g1 (nx_drop (P := dA (eSh sh)) (er_call (ea_cons (d := eRig g) (ed_var rfl) (ea_cons (d := eSh sh) (ed_var rfl) ea_nil)) ⟨g, sh, rfl, ok.rig, shw, rfl⟩)) fun σ2 H2 l2 e2 g2 => ?_
    refine go_nx l2 g2 (nx_drop (P := dA (.list ((leftOf g sh []).map eFl))) (er_call (ea_cons (d := eRig g) (ed_var rfl) (ea_cons (d := eSh sh) (ed_var rfl) (ea_cons (ed_tup ea_nil (by decide)) ea_nil))) ⟨g, sh, [], rfl, ok, ⟨Nat.zero_le _, fun p hp => by simp at hp⟩, rfl⟩)) fun σ3 H3 l3 e3 g3 => ?_
    have s3 : Same H0 H3 := (e1.trans e2).trans e3
    have hx3 := s3 _ _ hx
    obtain ⟨v0, h0, q0⟩ := g3 0 (vA (.ref x)) rfl
    cases q0
    refine go_fld l3 g3 h0 (ed_var (i := 1) (P := dA (eRig g)) rfl) B.cl B.nRig fun y1 H4 e4 d1 => ⟨dx, [], e4 _ _ hx3, by decide, ?_⟩
    have hx4 := e4 _ _ hx3
    have fx4 : Fz [x] H0 (upd H4 x (.ins C dx (putF "own_rig" y1 []))) := (Fz.of_same (s3.trans e4)).trans fz_upd
    have d1' := Fx.dq (oth_one (Oth.ins hx4)) (fx_upd (o := .ins C dx (putF "own_rig" y1 []))) d1
    have g4 : Hold (upd H4 x (.ins C dx (putF "own_rig" y1 []))) [some (vA (.ref x)), none, some (dA (eSh sh))] σ3 := fun i P hi => by
      match i, hi with
      | 0, hi => cases hi; exact ⟨_, h0, rfl⟩
      | 1, hi => cases hi
      | 2, hi =>
        cases hi
        obtain ⟨v, hv, dv⟩ := g3 2 _ rfl
        exact ⟨v, hv, Fx.dq (oth_one (Oth.ins hx4)) fx_upd (Dq.mono e4 _ _ dv)⟩
      | i + 3, hi => simp at hi
    refine go_fld (S := [some (vA (.ref x)), none, some (dA (eSh sh))]) l3 g4 h0 (ed_var (i := 2) (P := dA (eSh sh)) rfl) B.cl B.nShape fun y2 H5 e5 d2 => ⟨dx, _, e5 _ _ upd_same, by show 1 < 1000; decide, ?_⟩
    have hx5 := e5 _ _ (upd_same (H := H4) (a := x) (o := .ins C dx (putF "own_rig" y1 [])))
    have d15 := Fx.dq (oth_one (Oth.ins hx5)) (fx_upd (o := .ins C dx (putF "own_shape" y2 (putF "own_rig" y1 [])))) (Dq.mono e5 _ _ d1')
    have d25 := Fx.dq (oth_one (Oth.ins hx5)) (fx_upd (o := .ins C dx (putF "own_shape" y2 (putF "own_rig" y1 [])))) d2
    have fx5 : Fz [x] H0 (upd H5 x (.ins C dx (putF "own_shape" y2 (putF "own_rig" y1 [])))) := (fx4.trans (Fz.of_same e5)).trans fz_upd
    refine go_fld (S := some (vA (.ref x)) :: List.replicate 2 none) l3 (hold_one 2 h0 rfl) h0 (ed_tup ea_nil (by decide)) B.cl B.nPast fun y3 H6 e6 d3 => ⟨dx, _, e6 _ _ upd_same, by show 2 < 1000; decide, ?_⟩
    have hx6 := e6 _ _ (upd_same (H := H5) (a := x) (o := .ins C dx (putF "own_shape" y2 (putF "own_rig" y1 []))))
    have fx6 : Fz [x] H0 (upd H6 x (.ins C dx (putF "past" y3 (putF "own_shape" y2 (putF "own_rig" y1 []))))) := (fx5.trans (Fz.of_same e6)).trans fz_upd
    have d16 := Fx.dq (oth_one (Oth.ins hx6)) (fx_upd (o := .ins C dx (putF "past" y3 (putF "own_shape" y2 (putF "own_rig" y1 []))))) (Dq.mono e6 _ _ d15)
    have d26 := Fx.dq (oth_one (Oth.ins hx6)) (fx_upd (o := .ins C dx (putF "past" y3 (putF "own_shape" y2 (putF "own_rig" y1 []))))) (Dq.mono e6 _ _ d25)
    have d36 := Fx.dq (oth_one (Oth.ins hx6)) (fx_upd (o := .ins C dx (putF "past" y3 (putF "own_shape" y2 (putF "own_rig" y1 []))))) d3
    refine go_fldZ (S := some (vA (.ref x)) :: List.replicate 2 none) l3 (hold_one 2 h0 rfl) h0 (ed_tup ea_nil (by decide)) B.cl B.nLater fun y4 H7 e7 d4 => ⟨dx, _, e7 _ _ upd_same, by show 3 < 1000; decide, ?_⟩
    have hx7 := e7 _ _ (upd_same (H := H6) (a := x) (o := .ins C dx (putF "past" y3 (putF "own_shape" y2 (putF "own_rig" y1 [])))))
    have up : ∀ {d v}, Dq H7 d v → Dq (upd H7 x (.ins C dx (putF "later" y4 (putF "past" y3 (putF "own_shape" y2 (putF "own_rig" y1 [])))))) d v := fun h => Fx.dq (oth_one (Oth.ins hx7)) fx_upd h
    exact k _ ⟨dx, y1, y2, y3, y4, by rw [bp_new, upd_same], up (Dq.mono e7 _ _ d16), up (Dq.mono e7 _ _ d26), up (Dq.mono e7 _ _ d36), up d4⟩ ((fx6.trans (Fz.of_same e7)).trans fz_upd)

/-! run -/
abbrev mRun : Stmt := inClass (top 44) 7
theorem scmRun : FnScope ["self", "row", "outcome"] ["self", "row", "outcome"] (defScope mRun) := ⟨rfl, rfl, rfl, by decide +kernel, rfl, by decide +kernel, by decide +kernel⟩
def spRun (C : Addr) : Sp := fun vs H Q _ => ∃ x g s past later r o vr, vs = [.ref x, vr, .bl o] ∧ BenchAt C H x g s past later ∧ BOk g s past later ∧ past.length < 40 ∧ Dq H (eRow r) vr ∧ r ∈ rowsOf g ∧
  ∀ H', BenchAt C H' x g s (past ++ [(r, o)]) [] → Fz [x] H H' → Q (.int ((headsLeft g s (past ++ [(r, o)])).length : Nat)) H'
theorem ok_mRun (T : Tb mg) (B : Bx K mg C) (D : Dm K C "run" "Bench.run" mRun ["self", "row", "outcome"]) (W1 : Cal P w K mg base 3 "need_row" ["rig", "row"] (spA RNeedRow)) (M1 : CalM P w K mg base 1 C "__len__" ["self"] (spB0 C fun _ _ past => .int (past.length : Nat)))
    (M2 : CalM P w K mg base 8 C "heads" ["self"] (spB0 C fun g s past => .tuple ((headsLeft g s past).map eFl))) : CalM P w K mg base 9 C "run" ["self", "row", "outcome"] (spRun C) := by
  obtain ⟨f, fd, F, b, mm⟩ := D
  refine ⟨f, fd, F.ok scmRun (fun vs H Q E h => ?_) (fun cdv A outer s H0 vs Q E hr h => ?_), b, mm⟩
  · obtain ⟨x, g, sh, past, later, r, o, vr, rfl, _⟩ := h
    rfl
  · obtain ⟨x, g, sh, past, later, r, o, vr, rfl, hb, ok, hlen, dr, hmem, k⟩ := h
    refine ⟨_, pss_cons (ps_expr (pe_cal W1 hr (pa_cons (pe_fld (pv 0) rfl) (pa_cons (pv 1) pa_nil)))) (pss_cons (ps_if (pt_not (pt_val (w_isi K T.isi (pv 2) (w_ty "bool" T.bool boot_bool)))) pss_never pss_nil)
      (pss_cons (ps_if (pt_cmpR op_eq (w_lenM M1 hr T.len (pa_cons (pv 0) pa_nil)) (pe_num T.log) (nomark _)) pss_never pss_nil)
      (pss_cons (ps_fld (pv 0) (pe_tup (w_star K (pe_fld (pv 0) rfl) (pa_cons (pe_tup (pa_cons (pv 1) (pa_cons (pv 2) pa_nil))) pa_nil))) rfl)
      (pss_cons (ps_fld (pv 0) (pe_tup pa_nil) rfl) (pss_one (ps_ret (w_len K T.len (pa_cons (pe_m0 M2 B.cl hr (pv 0)) pa_nil)))))))), ?_⟩
    refine go_nx (S := [some (bnX C x g sh past later), some (dA (eRow r)), some (dA (.bool o))]) rfl (h_ab (A := bnX C x g sh past later) ⟨rfl, hb⟩ (h_ab dr (h_ab rfl h_nil))) (nx_drop (P := dA (eRow r)) (er_call (ea_cons (ed_bRig B (er_bn (ed_var rfl))) (ea_cons (ed_var rfl) ea_nil)) ⟨g, r, rfl, ok.game.rig, hmem, rfl⟩)) fun σ1 H1 l1 e1 g1 => ?_
    refine go_nx l1 g1 (nx_skip (et_is (et_not (et_B (ed_isi (d := .bool o) (ed_var rfl) k_bool_bool))) rfl)) fun σ2 H2 l2 e2 g2 => ?_
    refine go_nx l2 g2 (nx_skip (et_is (et_test (ed_eqI (ed_lenM (er_bn (ed_var (i := 0) rfl)) ok) ed_int)) (decide_eq_false (by omega)))) fun σ3 H3 l3 e3 g3 => ?_
    obtain ⟨v0, h0, q0, hb3⟩ := g3 0 (bnX C x g sh past later) rfl
    cases q0
    have few := ok.few
    refine go_fld l3 g3 h0 (P := dA (eLog (past ++ [(r, o)]))) (ed_is (ed_tup (ea_starT (ds := past.map eOut) (ed_bPast B (er_bn (ed_var (i := 0) rfl))) (ea_cons (ed_tup (ea_cons (d := eRow r) (ed_var rfl) (ea_cons (d := .bool o) (ed_var rfl) ea_nil)) (show 2 ≤ sizeLine by decide)) ea_nil)) (szl (by simp; omega))) (by unfold eLog; simp [eOut])) B.cl B.nPast fun y H4 e4 d4 => ?_
    obtain ⟨dx, fs, hx4, lf, hb4⟩ := (hb3.mono e4).putPast d4
    refine ⟨dx, fs, hx4, lf, ?_⟩
    refine go_fld (S := some (bnX C x g sh (past ++ [(r, o)]) later) :: List.replicate 2 none) l3 (hold_one 2 h0 ⟨rfl, hb4⟩) h0 (P := dA (eLog [])) (ed_tup ea_nil (by decide)) B.cl B.nLater fun y2 H5 e5 d5 => ?_
    obtain ⟨dx5, fs5, hx5, lf5, hb5⟩ := (hb4.mono e5).putLater d5
    refine ⟨dx5, fs5, hx5, lf5, ?_⟩
    have ok5 : BOk g sh (past ++ [(r, o)]) [] := ⟨ok.game, by simp; omega, fun p hp => by
      rcases List.mem_append.mp hp with z | z
      · exact ok.on1 p z
      · rw [List.mem_singleton.mp z]; exact hmem, fun p hp => by simp at hp⟩
    have fx5 : Fz [x] H0 (upd H5 x (.ins C dx5 (putF "later" y2 fs5))) := (((Fz.of_same (((e1.trans e2).trans e3).trans e4)).trans fz_upd).trans (Fz.of_same e5)).trans fz_upd
    refine go_ret (S := some (bnX C x g sh (past ++ [(r, o)]) []) :: List.replicate 2 none) (P := dA (.int ((headsLeft g sh (past ++ [(r, o)])).length : Nat))) l3 (hold_one 2 h0 ⟨rfl, hb5⟩) (ed_is (ed_lenT (ea_cons (ed_m0 (er_bn (ed_var (i := 0) rfl)) ok5 (fun _ _ _ _ => bn_heads)) ea_nil)) (by simp)) fun v H6 e6 d6 => ?_
    cases d6
    exact k _ (hb5.mono e6) (fx5.trans (Fz.of_same e6))

/-! undo, redo -/
abbrev mUndo : Stmt := inClass (top 44) 8
abbrev mRedo : Stmt := inClass (top 44) 9
theorem scmUndo : FnScope ["self"] ["self"] (defScope mUndo) := ⟨rfl, rfl, rfl, by decide +kernel, rfl, by decide +kernel, by decide +kernel⟩
theorem scmRedo : FnScope ["self"] ["self"] (defScope mRedo) := ⟨rfl, rfl, rfl, by decide +kernel, rfl, by decide +kernel, by decide +kernel⟩
def spUndo (C : Addr) : Sp := fun vs H Q _ => ∃ x g s past later, vs = [.ref x] ∧ BenchAt C H x g s past later ∧ BOk g s past later ∧ ∀ H', BenchAt C H' x g s (goBack (past, later)).1 (goBack (past, later)).2 → Fz [x] H H' → Q (.bl (!past.isEmpty)) H'
def spRedo (C : Addr) : Sp := fun vs H Q _ => ∃ x g s past later, vs = [.ref x] ∧ BenchAt C H x g s past later ∧ BOk g s past later ∧ ∀ H', BenchAt C H' x g s (goOn (past, later)).1 (goOn (past, later)).2 → Fz [x] H H' → Q (.bl (!later.isEmpty)) H'
theorem at_last (l : Log) (p : Row × Bool) : atI ((l ++ [p]).map eOut) (-1) = some (eOut p) := by
  have e : ixN ((l ++ [p]).map eOut).length (-1) = some l.length := by
    unfold ixN
    rw [if_neg (by decide)]
    simp
    constructor <;> omega
  unfold atI
  rw [e]
  simp
theorem ok_mUndo (T : Tb mg) (B : Bx K mg C) (D : Dm K C "undo" "Bench.undo" mUndo ["self"]) : CalM P w K mg base 1 C "undo" ["self"] (spUndo C) := by
  obtain ⟨f, fd, F, b, mm⟩ := D
  refine ⟨f, fd, F.ok scmUndo (fun vs H Q E h => ?_) (fun cdv A outer s H0 vs Q E hr h => ?_), b, mm⟩
  · obtain ⟨x, g, sh, past, later, rfl, _⟩ := h
    rfl
  · obtain ⟨x, g, sh, past, later, rfl, hb, ok, k⟩ := h
    refine ⟨_, pss_cons (ps_if (pt_cmpR (w_eqD K hr) (pe_fld (pv 0) rfl) (pe_tup pa_nil) (nomark _)) (pss_one (ps_ret pe_bl)) pss_nil)
      (pss_cons (ps_fld (pv 0) (pe_tup (pa_cons (w_ixT K (pe_fld (pv 0) rfl) (pe_un un_neg pe_int)) (w_star K (pe_fld (pv 0) rfl) pa_nil))) rfl)
      (pss_cons (ps_fld (pv 0) (pe_slice sl_tupA (pe_fld (pv 0) rfl) po_none (po_some (pe_un un_neg pe_int))) rfl) (pss_one (ps_ret pe_bl)))), ?_⟩
    refine go_ifs (S := [some (bnX C x g sh past later)]) rfl (h_ab (A := bnX C x g sh past later) ⟨rfl, hb⟩ h_nil) (et_test (ed_logNil (ed_bPast B (er_bn (ed_var rfl))) (ed_tup ea_nil (by decide)))) (fun q H1 e1 => ?_) fun q H1 e1 => ?_
    · have e : past = [] := by simpa using q
      subst e
      exact k _ (hb.mono e1) (Fz.of_same e1)
    · obtain ⟨pre, p, rfl⟩ : ∃ pre p, past = pre ++ [p] := by
        rcases List.eq_nil_or_concat past with e | ⟨pre, p, e⟩
        · rw [e] at q; simp at q
        · exact ⟨pre, p, by rw [e, List.concat_eq_append]⟩
      have few := ok.few
      have bk : goBack (pre ++ [p], later) = (pre, p :: later) := by
        unfold goBack
        simp
      rw [bk] at k
      refine go_fld (S := [some (bnX C x g sh (pre ++ [p]) later)]) rfl (h_ab (A := bnX C x g sh (pre ++ [p]) later) ⟨rfl, hb.mono e1⟩ h_nil) rfl (P := dA (eLog (p :: later))) (ed_is (ed_tup (ea_cons (ed_ixT (d := eOut p) (ed_bPast B (er_bn (ed_var rfl))) (ed_neg ed_int) (at_last pre p)) (ea_starT (ds := later.map eOut) (ed_bLater B (er_bn (ed_var rfl))) ea_nil)) (szl (by simp at few ⊢; omega))) (by unfold eLog; simp)) B.cl B.nLater fun y H2 e2 d2 => ?_
      obtain ⟨dx, fs, hx, lf, hb2⟩ := ((hb.mono e1).mono e2).putLater d2
      refine ⟨dx, fs, hx, lf, ?_⟩
      refine go_fld (S := [some (bnX C x g sh (pre ++ [p]) (p :: later))]) rfl (h_ab (A := bnX C x g sh (pre ++ [p]) (p :: later)) ⟨rfl, hb2⟩ h_nil) rfl (P := dA (eLog pre)) (ed_is (ed_slT (ed_bPast B (er_bn (ed_var rfl))) eo_none (eo_some (ed_neg ed_int))) (by rw [show (-1 : Int) = -1 from rfl, cut_init]; unfold eLog; simp)) B.cl B.nPast fun y2 H3 e3 d3 => ?_
      obtain ⟨dx3, fs3, hx3, lf3, hb3⟩ := (hb2.mono e3).putPast d3
      refine ⟨dx3, fs3, hx3, lf3, ?_⟩
      have z := k _ hb3 ((((Fz.of_same (e1.trans e2)).trans fz_upd).trans (Fz.of_same e3)).trans fz_upd)
      rw [show (!(pre ++ [p]).isEmpty) = true by simp] at z
      exact z
theorem ok_mRedo (T : Tb mg) (B : Bx K mg C) (D : Dm K C "redo" "Bench.redo" mRedo ["self"]) : CalM P w K mg base 1 C "redo" ["self"] (spRedo C) := by
  obtain ⟨f, fd, F, b, mm⟩ := D
  refine ⟨f, fd, F.ok scmRedo (fun vs H Q E h => ?_) (fun cdv A outer s H0 vs Q E hr h => ?_), b, mm⟩
  · obtain ⟨x, g, sh, past, later, rfl, _⟩ := h
    rfl
  · obtain ⟨x, g, sh, past, later, rfl, hb, ok, k⟩ := h
    refine ⟨_, pss_cons (ps_if (pt_cmpR (w_eqD K hr) (pe_fld (pv 0) rfl) (pe_tup pa_nil) (nomark _)) (pss_one (ps_ret pe_bl)) pss_nil)
      (pss_cons (ps_fld (pv 0) (pe_tup (w_star K (pe_fld (pv 0) rfl) (pa_cons (w_ixT K (pe_fld (pv 0) rfl) pe_int) pa_nil))) rfl)
      (pss_cons (ps_fld (pv 0) (pe_slice sl_tupA (pe_fld (pv 0) rfl) (po_some pe_int) po_none) rfl) (pss_one (ps_ret pe_bl)))), ?_⟩
    refine go_ifs (S := [some (bnX C x g sh past later)]) rfl (h_ab (A := bnX C x g sh past later) ⟨rfl, hb⟩ h_nil) (et_test (ed_logNil (ed_bLater B (er_bn (ed_var rfl))) (ed_tup ea_nil (by decide)))) (fun q H1 e1 => ?_) fun q H1 e1 => ?_
    · have e : later = [] := by simpa using q
      subst e
      have z := k H1
      rw [show goOn (past, []) = (past, []) by unfold goOn; simp] at z
      exact z (hb.mono e1) (Fz.of_same e1)
    · obtain ⟨p, post, rfl⟩ : ∃ p post, later = p :: post := by
        cases later with
        | nil => simp at q
        | cons p post => exact ⟨p, post, rfl⟩
      have few := ok.few
      have bk : goOn (past, p :: post) = (past ++ [p], post) := by
        unfold goOn
        simp
      rw [bk] at k
      refine go_fld (S := [some (bnX C x g sh past (p :: post))]) rfl (h_ab (A := bnX C x g sh past (p :: post)) ⟨rfl, hb.mono e1⟩ h_nil) rfl (P := dA (eLog (past ++ [p]))) (ed_is (ed_tup (ea_starT (ds := past.map eOut) (ed_bPast B (er_bn (ed_var rfl))) (ea_cons (ed_ixT (d := eOut p) (ds := (p :: post).map eOut) (ed_bLater B (er_bn (ed_var rfl))) ed_int (by unfold atI; simp [ixN])) ea_nil)) (szl (by simp at few ⊢; omega))) (by unfold eLog; simp)) B.cl B.nPast fun y H2 e2 d2 => ?_
      obtain ⟨dx, fs, hx, lf, hb2⟩ := ((hb.mono e1).mono e2).putPast d2
      refine ⟨dx, fs, hx, lf, ?_⟩
      refine go_fld (S := [some (bnX C x g sh (past ++ [p]) (p :: post))]) rfl (h_ab (A := bnX C x g sh (past ++ [p]) (p :: post)) ⟨rfl, hb2⟩ h_nil) rfl (P := dA (eLog post)) (ed_is (ed_slT (ds := (p :: post).map eOut) (ed_bLater B (er_bn (ed_var rfl))) (eo_some ed_int) eo_none) (by rw [cut_tail]; unfold eLog; simp)) B.cl B.nLater fun y2 H3 e3 d3 => ?_
      obtain ⟨dx3, fs3, hx3, lf3, hb3⟩ := (hb2.mono e3).putLater d3
      refine ⟨dx3, fs3, hx3, lf3, ?_⟩
      exact k _ hb3 ((((Fz.of_same (e1.trans e2)).trans fz_upd).trans (Fz.of_same e3)).trans fz_upd)
end
end Rn
end
section
set_option maxHeartbeats 4000000
/-! The law's own books. -/
namespace Rn
open PySem L2 PyProof.Rows PySem.W
theorem LawOk.game {g : Rig} {s : Nat × Nat} (h : LawOk g s) : GameOk g s := ⟨h.rig, h.lo, h.hi, by rw [lots_same]; exact h.sets⟩
theorem GameOk.law {g : Rig} {s : Nat × Nat} (h : GameOk g s) : LawOk g s := ⟨h.rig, h.lo, h.hi, by rw [← lots_same]; exact h.sets⟩
theorem every_on {g : Rig} {s : Nat × Nat} (h : GameOk g s) {f : Fl} (hf : f ∈ lawAll g s) {r : Row} (hr : r ∈ rowsOf g) : FlOn r.length f := by
  rw [← faults_same] at hf
  rw [(rowsOf_in hr).1.1]
  exact fault_on h hf
theorem every_len {g : Rig} {s : Nat × Nat} (h : GameOk g s) : (lawAll g s).length ≤ 1000 := by rw [← faults_same]; exact faults_len h
theorem every_esrt (g : Rig) (s : Nat × Nat) : Esrt (lawAll g s) := by rw [← faults_same]; exact faults_esrt g s
def kRig : Key := .inr "rig"
def kShape : Key := .inr "shape"
def kRows : Key := .inr "rows"
def kPast : Key := .inr "past"
def kLater : Key := .inr "later"
def kEvery : Key := .inr "every"
structure OwnD (H : Hp) (kvs : List (Key × L2.V)) (g : Rig) (s : Nat × Nat) (past later : Log) : Prop where
  len : kvs.length ≤ 12
  rig : ∃ v, valV kvs kRig = some v ∧ Dq H (eRig g) v
  shape : ∃ v, valV kvs kShape = some v ∧ Dq H (eSh s) v
  rows : ∃ v, valV kvs kRows = some v ∧ Dq H (.list ((rowsOf g).map eRow)) v
  past : ∃ v, valV kvs kPast = some v ∧ Dq H (eLog past) v
  later : ∃ v, valV kvs kLater = some v ∧ Dq H (eLog later) v
  every : ∃ v, valV kvs kEvery = some v ∧ Dq H (.list ((lawAll g s).map eFl)) v
def OwnAt (H : Hp) (o : Addr) (g : Rig) (s : Nat × Nat) (past later : Log) : Prop := ∃ kvs, H o = some (.dK kvs) ∧ OwnD H kvs g s past later
section
variable {H H' : Hp} {kvs : List (Key × L2.V)} {g : Rig} {s : Nat × Nat} {past later p2 : Log} {o x : Addr} {ms : List Addr} {C : Addr} {y : L2.V}
theorem OwnD.map (f : ∀ d v, Dq H d v → Dq H' d v) (h : OwnD H kvs g s past later) : OwnD H' kvs g s past later :=
  ⟨h.len, let ⟨v, a, b⟩ := h.rig; ⟨v, a, f _ _ b⟩, let ⟨v, a, b⟩ := h.shape; ⟨v, a, f _ _ b⟩, let ⟨v, a, b⟩ := h.rows; ⟨v, a, f _ _ b⟩, let ⟨v, a, b⟩ := h.past; ⟨v, a, f _ _ b⟩, let ⟨v, a, b⟩ := h.later; ⟨v, a, f _ _ b⟩, let ⟨v, a, b⟩ := h.every; ⟨v, a, f _ _ b⟩⟩
theorem OwnAt.mono (e : Same H H') (h : OwnAt H o g s past later) : OwnAt H' o g s past later := let ⟨kvs, a, b⟩ := h; ⟨kvs, e _ _ a, b.map fun d v q => Dq.mono e d v q⟩
theorem OwnAt.fx (ho : ∀ a ∈ ms, Oth H a) (e : Fx ms H H') (hn : o ∉ ms) (h : OwnAt H o g s past later) : OwnAt H' o g s past later := let ⟨kvs, a, b⟩ := h; ⟨kvs, e _ _ hn (fun φ z => by cases z) a, b.map fun d v q => Fx.dq ho e q⟩
theorem OwnAt.oth (h : OwnAt H o g s past later) : Oth H o := let ⟨kvs, a, _⟩ := h; Oth.dK a
theorem BenchAt.fx (ho : ∀ a ∈ ms, Oth H a) (e : Fx ms H H') (hn : x ∉ ms) (h : BenchAt C H x g s past later) : BenchAt C H' x g s past later :=
  let ⟨dx, va, vb, vc, vd, h1, h2, h3, h4, h5⟩ := h
  ⟨dx, va, vb, vc, vd, e _ _ hn (fun φ z => by cases z) h1, Fx.dq ho e h2, Fx.dq ho e h3, Fx.dq ho e h4, Fx.dq ho e h5⟩
theorem OwnAt.putPast (h : OwnAt H o g s past later) (hy : Dq H (eLog p2) y) : ∃ H4, DPut H o (.str "past") y H4 ∧ OwnAt H4 o g s p2 later ∧ (∃ q, H4 = upd H o q) := by
  have ho := oth_one h.oth
  obtain ⟨kvs, a, b⟩ := h
  obtain ⟨v0, h0, _⟩ := b.past
  refine ⟨_, DPut.k (k := kPast) a (szl' (by have := b.len; omega)), ⟨_, upd_same, ?_⟩, _, rfl⟩
  have f : ∀ d v, Dq H d v → Dq (upd H o (.dK (putK kvs kPast y))) d v := fun d v q => Fx.dq ho fx_upd q
  exact ⟨by rw [putK_there h0]; exact b.len, let ⟨v, a, c⟩ := b.rig; ⟨v, by rw [valV_put, if_neg (by decide)]; exact a, f _ _ c⟩, let ⟨v, a, c⟩ := b.shape; ⟨v, by rw [valV_put, if_neg (by decide)]; exact a, f _ _ c⟩,
    let ⟨v, a, c⟩ := b.rows; ⟨v, by rw [valV_put, if_neg (by decide)]; exact a, f _ _ c⟩, ⟨y, by rw [valV_put, if_pos rfl], f _ _ hy⟩, let ⟨v, a, c⟩ := b.later; ⟨v, by rw [valV_put, if_neg (by decide)]; exact a, f _ _ c⟩,
    let ⟨v, a, c⟩ := b.every; ⟨v, by rw [valV_put, if_neg (by decide)]; exact a, f _ _ c⟩⟩
theorem OwnAt.putLater (h : OwnAt H o g s past later) (hy : Dq H (eLog p2) y) : ∃ H4, DPut H o (.str "later") y H4 ∧ OwnAt H4 o g s past p2 ∧ (∃ q, H4 = upd H o q) := by
  have ho := oth_one h.oth
  obtain ⟨kvs, a, b⟩ := h
  obtain ⟨v0, h0, _⟩ := b.later
  refine ⟨_, DPut.k (k := kLater) a (szl' (by have := b.len; omega)), ⟨_, upd_same, ?_⟩, _, rfl⟩
  have f : ∀ d v, Dq H d v → Dq (upd H o (.dK (putK kvs kLater y))) d v := fun d v q => Fx.dq ho fx_upd q
  exact ⟨by rw [putK_there h0]; exact b.len, let ⟨v, a, c⟩ := b.rig; ⟨v, by rw [valV_put, if_neg (by decide)]; exact a, f _ _ c⟩, let ⟨v, a, c⟩ := b.shape; ⟨v, by rw [valV_put, if_neg (by decide)]; exact a, f _ _ c⟩,
    let ⟨v, a, c⟩ := b.rows; ⟨v, by rw [valV_put, if_neg (by decide)]; exact a, f _ _ c⟩, let ⟨v, a, c⟩ := b.past; ⟨v, by rw [valV_put, if_neg (by decide)]; exact a, f _ _ c⟩, ⟨y, by rw [valV_put, if_pos rfl], f _ _ hy⟩,
    let ⟨v, a, c⟩ := b.every; ⟨v, by rw [valV_put, if_neg (by decide)]; exact a, f _ _ c⟩⟩
end
def aOw (o : Addr) (g : Rig) (s : Nat × Nat) (past later : Log) : Ab := ⟨fun v H => v = .ref o ∧ OwnAt H o g s past later, fun v _ _ e h => ⟨h.1, h.2.mono e⟩⟩
section
variable {o : Addr} {g : Rig} {s : Nat × Nat} {past later : Log} {te : TE} {S : Sto}
theorem ed_ow {x : Str} {d : PyData} (h : Er te S (aOw o g s past later)) (pick : ∀ H kvs, OwnD H kvs g s past later → ∃ v, valV kvs (.inr x) = some v ∧ Dq H d v) : Ed (tDGet te (tC (.str x))) S d := fun σ H Q hl hh k => h σ H _ hl hh fun v H1 e1 p => by
  obtain ⟨rfl, kvs, a, b⟩ := p
  obtain ⟨v, hv, dv⟩ := pick H1 kvs b
  exact ⟨o, v, rfl, by rw [← hv]; exact DGet.k (k := .inr x) a, k v H1 e1 dv⟩
theorem ed_oRig (h : Er te S (aOw o g s past later)) : Ed (tDGet te (tC (.str "rig"))) S (eRig g) := ed_ow h fun _ _ b => b.rig
theorem ed_oShape (h : Er te S (aOw o g s past later)) : Ed (tDGet te (tC (.str "shape"))) S (eSh s) := ed_ow h fun _ _ b => b.shape
theorem ed_oRows (h : Er te S (aOw o g s past later)) : Ed (tDGet te (tC (.str "rows"))) S (.list ((rowsOf g).map eRow)) := ed_ow h fun _ _ b => b.rows
theorem ed_oPast (h : Er te S (aOw o g s past later)) : Ed (tDGet te (tC (.str "past"))) S (eLog past) := ed_ow h fun _ _ b => b.past
theorem ed_oLater (h : Er te S (aOw o g s past later)) : Ed (tDGet te (tC (.str "later"))) S (eLog later) := ed_ow h fun _ _ b => b.later
theorem ed_oEvery (h : Er te S (aOw o g s past later)) : Ed (tDGet te (tC (.str "every"))) S (.list ((lawAll g s).map eFl)) := ed_ow h fun _ _ b => b.every
end
section
variable {P : Program} {w : World} {K : PySem.W.Frag} {mg : Str → Option Value} {base : Heap}
/-! _law_begin_bench -/
abbrev sBegin : Stmt := top 64
theorem scBegin : FnScope ["rig_so", "shape_so", "found"] ["rig_so", "shape_so"] (defScope sBegin) := ⟨rfl, rfl, rfl, by decide +kernel, rfl, by decide +kernel, by decide +kernel⟩
def spBegin : Sp := fun vs H Q _ => ∃ g s vg vs', vs = [vg, vs'] ∧ Dq H (eRig g) vg ∧ Dq H (eSh s) vs' ∧ LawOk g s ∧ ∀ o H', H o = none → Same H H' → OwnAt H' o g s [] [] → Q (.ref o) H'
theorem ok_begin (T : Tb mg) (D : Dn K mg "_law_begin_bench" sBegin ["rig_so", "shape_so"]) (W1 : Cal P w K mg base 2 "_law_rows" ["rig_so"] (spF RLRows)) (W2 : Cal P w K mg base 4 "_law_all" ["rig_so", "shape_so"] (spA RLAll)) : Cal P w K mg base 5 "_law_begin_bench" ["rig_so", "shape_so"] spBegin := by
  obtain ⟨f, fd, FF, b, mm⟩ := D
  refine ⟨f, fd, FF.ok scBegin (fun vs H Q E h => ?_) (fun cdv A outer s H0 vs Q E hr h => ?_), FF.kp, b, mm⟩
  · obtain ⟨g, s, vg, vs', rfl, _⟩ := h
    rfl
  · obtain ⟨g, sh, vg, vs', rfl, dg, ds, ok, k⟩ := h
    refine ⟨_, pss_cons (ps_asg (pe_disp (pps_cons pe_str (pv 0) (pps_cons pe_str (pv 1) (pps_cons pe_str (pe_cal W1 hr (pa_cons (pv 0) pa_nil)) (pps_cons pe_str (pe_tup pa_nil) (pps_cons pe_str (pe_tup pa_nil) pps_nil))))) rfl rfl (by simp) (by decide)) (pg_one 2 scBegin.nd))
      (pss_cons (w_dput hr (pv 2) pe_str (pe_cal W2 hr (pa_cons (pv 0) (pa_cons (pv 1) pa_nil)))) (pss_one (ps_ret (pv 2)))), ?_⟩
    refine u_asg fun o ho => ?_
    have s1 : Same H0 (upd H0 o (.dK [])) := Same.new ho
    refine ⟨_, rfl, ?_⟩
    refine ⟨_, rfl, ?_⟩
    refine (ef_call (ea_cons (ed_var (i := 0) (P := dA (eRig g)) rfl) ea_nil) ⟨g, rfl, ok.rig, rfl⟩ : Ef _ [some (dA (eRig g)), some (dA (eSh sh)), none] ((rowsOf g).map eRow)) _ _ _ rfl (h_ab (Dq.mono s1 _ _ dg) (h_ab (Dq.mono s1 _ _ ds) (h_no h_nil))) fun p xs H2 hp e2 hpl hpx => ?_
    refine ⟨(by decide : 0 ≤ sizeLine), fun t1 ht1 => ⟨(by decide : 0 ≤ sizeLine), fun t2 ht2 => ?_⟩⟩
    have e24 : Same H2 (upd (upd H2 t1 (.tup [])) t2 (.tup [])) := Same.mut (Same.new ht1) (Same.free (Same.new ht1) ht2)
    have hoo : upd (upd H2 t1 (.tup [])) t2 (.tup []) o = some (.dK []) := e24 _ _ (e2 _ _ upd_same)
    refine ⟨hoo, [(kRig, vg), (kShape, vs'), (kRows, .ref p), (kPast, .ref t1), (kLater, .ref t2)], rfl, (show 5 ≤ 15 by decide), ?_⟩
    generalize hkv : mergeK [] [(kRig, vg), (kShape, vs'), (kRows, V.ref p), (kPast, V.ref t1), (kLater, V.ref t2)] = kvs
    have hkv' : putK (putK (putK (putK (putK [] kRig vg) kShape vs') kRows (V.ref p)) kPast (V.ref t1)) kLater (V.ref t2) = kvs := hkv
    have v1 : valV kvs kRig = some vg := by rw [← hkv', valV_put, if_neg (by decide), valV_put, if_neg (by decide), valV_put, if_neg (by decide), valV_put, if_neg (by decide), valV_put, if_pos rfl]
    have v2 : valV kvs kShape = some vs' := by rw [← hkv', valV_put, if_neg (by decide), valV_put, if_neg (by decide), valV_put, if_neg (by decide), valV_put, if_pos rfl]
    have v3 : valV kvs kRows = some (.ref p) := by rw [← hkv', valV_put, if_neg (by decide), valV_put, if_neg (by decide), valV_put, if_pos rfl]
    have v4 : valV kvs kPast = some (.ref t1) := by rw [← hkv', valV_put, if_neg (by decide), valV_put, if_pos rfl]
    have v5 : valV kvs kLater = some (.ref t2) := by rw [← hkv', valV_put, if_pos rfl]
    have vl : kvs.length ≤ 10 := by
      rw [← hkv']
      have q1 := length_putK (putK (putK (putK (putK [] kRig vg) kShape vs') kRows (V.ref p)) kPast (V.ref t1)) kLater (V.ref t2)
      have q2 := length_putK (putK (putK (putK [] kRig vg) kShape vs') kRows (V.ref p)) kPast (V.ref t1)
      have q3 := length_putK (putK (putK [] kRig vg) kShape vs') kRows (V.ref p)
      have q4 := length_putK (putK [] kRig vg) kShape vs'
      have q5 := length_putK ([] : List (Key × V)) kRig vg
      simp at q5
      omega
    have o0 : H0 o = none := ho
    have s4 : Same H0 (upd (upd H2 t1 (.tup [])) t2 (.tup [])) := (s1.trans e2).trans e24
    generalize hH5 : upd (upd (upd H2 t1 (.tup [])) t2 (.tup [])) o (.dK kvs) = H5
    have s5 : Same H0 H5 := by rw [← hH5]; exact Same.mut s4 o0
    have ho5 : H5 o = some (.dK kvs) := by rw [← hH5]; exact upd_same
    have up5 : ∀ d v, Dq (upd (upd H2 t1 (.tup [])) t2 (.tup [])) d v → Dq H5 d v := fun d v q => by rw [← hH5]; exact Fx.dq (oth_one (Oth.dK hoo)) fx_upd q
    have d3 := up5 _ _ (Dq.mono e24 (.list ((rowsOf g).map eRow)) (.ref p) ⟨p, xs, rfl, hpl, hpx⟩)
    have nt : t1 ≠ t2 := fun z => by rw [← z, upd_same] at ht2; cases ht2
    have d4 := up5 (.tuple []) (.ref t1) ⟨t1, [], rfl, (upd_ne nt).trans upd_same, rfl⟩
    have d5 := up5 (.tuple []) (.ref t2) ⟨t2, [], rfl, upd_same, rfl⟩
    refine go_dput (S := [some (dA (eRig g)), some (dA (eSh sh)), none]) (P := dA (.list ((lawAll g sh).map eFl))) rfl (h_ab (Dq.mono s5 _ _ dg) (h_ab (Dq.mono s5 _ _ ds) (h_no h_nil))) (er_call (ea_cons (ed_var rfl) (ea_cons (ed_var rfl) ea_nil)) ⟨g, sh, rfl, ok, rfl⟩) fun v6 H6 e6 d6 => ?_
    have ho6 := e6 _ _ ho5
    refine ⟨_, rfl, o, _, rfl, DPut.k (k := kEvery) ho6 (szl' (by omega)), ?_⟩
    have up6 : ∀ d v, Dq H6 d v → Dq (upd H6 o (.dK (putK kvs kEvery v6))) d v := fun d v q => Fx.dq (oth_one (Oth.dK ho6)) fx_upd q
    refine u_ret (u_var rfl (k o _ o0 (Same.mut (s5.trans e6) o0) ⟨_, upd_same, ?_, ?_, ?_, ?_, ?_, ?_, ?_⟩))
    · have := length_putK kvs kEvery v6
      omega
    · exact ⟨vg, by rw [valV_put, if_neg (by decide)]; exact v1, up6 _ _ (Dq.mono e6 _ _ (Dq.mono s5 _ _ dg))⟩
    · exact ⟨vs', by rw [valV_put, if_neg (by decide)]; exact v2, up6 _ _ (Dq.mono e6 _ _ (Dq.mono s5 _ _ ds))⟩
    · exact ⟨_, by rw [valV_put, if_neg (by decide)]; exact v3, up6 _ _ (Dq.mono e6 _ _ d3)⟩
    · exact ⟨_, by rw [valV_put, if_neg (by decide)]; exact v4, up6 _ _ (Dq.mono e6 _ _ d4)⟩
    · exact ⟨_, by rw [valV_put, if_neg (by decide)]; exact v5, up6 _ _ (Dq.mono e6 _ _ d5)⟩
    · exact ⟨v6, by rw [valV_put, if_pos rfl], up6 _ _ d6⟩

/-! _law_gone_back, _law_gone_on -/
abbrev sGoBack : Stmt := top 66
abbrev sGoOn : Stmt := top 67
theorem scGoBack : FnScope ["own", "is_so"] ["own"] (defScope sGoBack) := ⟨rfl, rfl, rfl, by decide +kernel, rfl, by decide +kernel, by decide +kernel⟩
theorem scGoOn : FnScope ["own", "is_so"] ["own"] (defScope sGoOn) := ⟨rfl, rfl, rfl, by decide +kernel, rfl, by decide +kernel, by decide +kernel⟩
def spGoBack : Sp := fun vs H Q _ => ∃ o g s past later, vs = [.ref o] ∧ OwnAt H o g s past later ∧ past.length + later.length ≤ 1000 ∧ ∀ H', OwnAt H' o g s (goBack (past, later)).1 (goBack (past, later)).2 → Fz [o] H H' → Q (.bl (!past.isEmpty)) H'
def spGoOn : Sp := fun vs H Q _ => ∃ o g s past later, vs = [.ref o] ∧ OwnAt H o g s past later ∧ past.length + later.length ≤ 1000 ∧ ∀ H', OwnAt H' o g s (goOn (past, later)).1 (goOn (past, later)).2 → Fz [o] H H' → Q (.bl (!later.isEmpty)) H'
theorem ok_goBack (T : Tb mg) (D : Dn K mg "_law_gone_back" sGoBack ["own"]) : Cal P w K mg base 1 "_law_gone_back" ["own"] spGoBack := by
  obtain ⟨f, fd, FF, b, mm⟩ := D
  refine ⟨f, fd, FF.ok scGoBack (fun vs H Q E h => ?_) (fun cdv A outer s H0 vs Q E hr h => ?_), FF.kp, b, mm⟩
  · obtain ⟨o, g, s, past, later, rfl, _⟩ := h
    rfl
  · obtain ⟨o, g, sh, past, later, rfl, hO, few, k⟩ := h
    refine ⟨_, pss_cons (ps_asg (pe_cmpR (w_neD K hr) (w_dget hr (pv 0) pe_str) (pe_tup pa_nil) (nomark _)) (pg_one 1 scGoBack.nd))
      (pss_cons (w_dput hr (pv 0) pe_str (pe_op (w_catT K) (pe_slice sl_tupA (w_dget hr (pv 0) pe_str) (po_some (pe_un un_neg pe_int)) po_none) (w_dget hr (pv 0) pe_str)))
      (pss_cons (w_dput hr (pv 0) pe_str (pe_slice sl_tupA (w_dget hr (pv 0) pe_str) po_none (po_some (pe_un un_neg pe_int)))) (pss_one (ps_ret (pv 1))))), ?_⟩
    refine go_asg (i := 1) (S := [some (aOw o g sh past later), none]) (P := dA (.bool (!past.isEmpty))) rfl (h_ab (A := aOw o g sh past later) ⟨rfl, hO⟩ (h_no h_nil)) (ed_logNot (ed_oPast (ed_var rfl)) (ed_tup ea_nil (by decide))) fun v1 H1 e1 d1 => ?_
    cases d1
    refine go_dput (S := [some (aOw o g sh past later), none]) (P := dA (eLog (goBack (past, later)).2)) rfl (h_ab (A := aOw o g sh past later) ⟨rfl, hO.mono e1⟩ (h_no h_nil)) (ed_is (ed_catT (ed_slT (ds := past.map eOut) (ed_oPast (ed_var rfl)) (eo_some (ed_neg ed_int)) eo_none) (ed_oLater (ed_var rfl)) (szl (by
      have := cut_last (past.map eOut)
      show (cutD (past.map eOut) (some (-1)) none).length + (later.map eOut).length ≤ 1000000
      rw [this, List.length_drop, List.length_map, List.length_map]
      omega))) (by show PyData.tuple (cutD (past.map eOut) (some (-1)) none ++ later.map eOut) = _; rw [cut_last]; unfold eLog goBack; simp [List.map_drop])) fun v2 H2 e2 d2 => ?_
    obtain ⟨H3, hp3, hO3, q3, rfl⟩ := ((hO.mono e1).mono e2).putLater d2
    refine ⟨_, rfl, o, _, rfl, hp3, ?_⟩
    refine go_dput (S := [some (aOw o g sh past (goBack (past, later)).2), none]) (P := dA (eLog (goBack (past, later)).1)) rfl (h_ab (A := aOw o g sh past (goBack (past, later)).2) ⟨rfl, hO3⟩ (h_no h_nil)) (ed_is (ed_slT (ds := past.map eOut) (ed_oPast (ed_var rfl)) eo_none (eo_some (ed_neg ed_int))) (by show PyData.tuple (cutD (past.map eOut) none (some (-1))) = _; rw [cut_init]; unfold eLog goBack; simp)) fun v4 H4 e4 d4 => ?_
    obtain ⟨H5, hp5, hO5, q5, rfl⟩ := (hO3.mono e4).putPast d4
    refine ⟨_, rfl, o, _, rfl, hp5, ?_⟩
    exact u_ret (u_var rfl (k _ hO5 ((((Fz.of_same (e1.trans e2)).trans fz_upd).trans (Fz.of_same e4)).trans fz_upd)))
theorem ok_goOn (T : Tb mg) (D : Dn K mg "_law_gone_on" sGoOn ["own"]) : Cal P w K mg base 1 "_law_gone_on" ["own"] spGoOn := by
  obtain ⟨f, fd, FF, b, mm⟩ := D
  refine ⟨f, fd, FF.ok scGoOn (fun vs H Q E h => ?_) (fun cdv A outer s H0 vs Q E hr h => ?_), FF.kp, b, mm⟩
  · obtain ⟨o, g, s, past, later, rfl, _⟩ := h
    rfl
  · obtain ⟨o, g, sh, past, later, rfl, hO, few, k⟩ := h
    refine ⟨_, pss_cons (ps_asg (pe_cmpR (w_neD K hr) (w_dget hr (pv 0) pe_str) (pe_tup pa_nil) (nomark _)) (pg_one 1 scGoOn.nd))
      (pss_cons (w_dput hr (pv 0) pe_str (pe_op (w_catT K) (w_dget hr (pv 0) pe_str) (pe_slice sl_tupA (w_dget hr (pv 0) pe_str) po_none (po_some pe_int))))
      (pss_cons (w_dput hr (pv 0) pe_str (pe_slice sl_tupA (w_dget hr (pv 0) pe_str) (po_some pe_int) po_none)) (pss_one (ps_ret (pv 1))))), ?_⟩
    refine go_asg (i := 1) (S := [some (aOw o g sh past later), none]) (P := dA (.bool (!later.isEmpty))) rfl (h_ab (A := aOw o g sh past later) ⟨rfl, hO⟩ (h_no h_nil)) (ed_logNot (ed_oLater (ed_var rfl)) (ed_tup ea_nil (by decide))) fun v1 H1 e1 d1 => ?_
    cases d1
    refine go_dput (S := [some (aOw o g sh past later), none]) (P := dA (eLog (goOn (past, later)).1)) rfl (h_ab (A := aOw o g sh past later) ⟨rfl, hO.mono e1⟩ (h_no h_nil)) (ed_is (ed_catT (ds := past.map eOut) (ed_oPast (ed_var rfl)) (ed_slT (ds := later.map eOut) (ed_oLater (ed_var rfl)) eo_none (eo_some ed_int)) (szl (by
      rw [cut_head, List.length_take, List.length_map, List.length_map]
      omega))) (by rw [cut_head]; unfold eLog goOn; simp [List.map_take])) fun v2 H2 e2 d2 => ?_
    obtain ⟨H3, hp3, hO3, q3, rfl⟩ := ((hO.mono e1).mono e2).putPast d2
    refine ⟨_, rfl, o, _, rfl, hp3, ?_⟩
    refine go_dput (S := [some (aOw o g sh (goOn (past, later)).1 later), none]) (P := dA (eLog (goOn (past, later)).2)) rfl (h_ab (A := aOw o g sh (goOn (past, later)).1 later) ⟨rfl, hO3⟩ (h_no h_nil)) (ed_is (ed_slT (ds := later.map eOut) (ed_oLater (ed_var rfl)) (eo_some ed_int) eo_none) (by rw [cut_tail]; unfold eLog goOn; simp)) fun v4 H4 e4 d4 => ?_
    obtain ⟨H5, hp5, hO5, q5, rfl⟩ := (hO3.mono e4).putLater d4
    refine ⟨_, rfl, o, _, rfl, hp5, ?_⟩
    exact u_ret (u_var rfl (k _ hO5 ((((Fz.of_same (e1.trans e2)).trans fz_upd).trans (Fz.of_same e4)).trans fz_upd)))
end
end Rn
end
section
set_option maxHeartbeats 4000000
namespace Rn
open PySem L2 PyProof.Rows PySem.W
variable {P : Program} {w : World} {K : PySem.W.Frag} {mg : Str → Option Value} {base : Heap}
section
variable {te ta tb : TE} {tt A B : TT} {t u v : TS} {D : Ends} {σ : L2.St} {H : Hp} {Q : VK} {S : Sto} {i : Nat} {b : Bool} {n : Nat}
theorem w_setD {X : Cx} {k : Nat} (hr : Room k X.A) : PSet X rSetD := set_dict (by have := hr.units; omega)
theorem u_asgG {g : TG} (h : te σ H fun x H1 => g x σ H1 (u D)) : tSeq (tAsg te g) u D σ H := h
theorem u_asgZ (h : te σ H fun x H1 => D.nx (σ.set i (some x)) H1) : tAsg te (gName i) D σ H := h
theorem go_ifand (hl : σ.length = S.length) (hh : Hold H S σ) (h : Et A S b) (k1 : b = false → ∀ H', Same H H' → u D σ H') (k2 : b = true → ∀ H', Same H H' → B σ H' fun c H2 => if c = true then t { D with nx := u D } σ H2 else u D σ H2) : tSeq (tIfS (tAnd A B) t tNext) u D σ H := h σ H _ hl hh fun H1 e1 => by
  cases b with
  | true => exact iteT (k2 rfl H1 e1)
  | false => exact iteF (iteF (k1 rfl H1 e1))
end
/-! _law_run_one -/
abbrev sRunOne : Stmt := top 68
theorem scRunOne : FnScope ["m", "own", "row", "some", "outcome"] ["m", "own"] (defScope sRunOne) := ⟨rfl, rfl, rfl, by decide +kernel, rfl, by decide +kernel, by decide +kernel⟩
def spRunOne : Sp := fun vs H Q _ => ∃ m n o g s past later, vs = [.ref m, .ref o] ∧ MG m n H ∧ n ≤ 900000 ∧ OwnAt H o g s past later ∧ o ≠ m ∧ BOk g s past later ∧ rowsOf g ≠ [] ∧
  ∀ r b v H' n', r ∈ rowsOf g → Dq H' (.tuple [eRow r, .bool b, .int ((lawHeads (rowsOf g) (lawAll g s) (past ++ [(r, b)])).length : Nat)]) v → MG m n' H' → n' ≤ n + 4 → OwnAt H' o g s (past ++ [(r, b)]) [] → Fx [m, o] H H' → Q v H'
theorem ok_runOne (T : Tb mg) (D : Dn K mg "_law_run_one" sRunOne ["m", "own"]) (W1 : Cal P w K mg base 3 "_law_of" ["m", "some"] spOf) (W2 : Cal P w K mg base 3 "_law_fit" ["every", "log_so"] (spF RLFit)) (W3 : Cal P w K mg base 2 "_law_draw" ["m", "limit"] spDraw)
    (W4 : Cal P w K mg base 2 "_law_fails" ["row", "some"] (spA RFail)) (W5 : Cal P w K mg base 4 "_law_heads" ["rows", "every", "log_so"] (spA RLHeads)) : Cal P w K mg base 5 "_law_run_one" ["m", "own"] spRunOne := by
  obtain ⟨f, fd, FF, b, mm⟩ := D
  refine ⟨f, fd, FF.ok scRunOne (fun vs H Q E h => ?_) (fun cdv A outer s H0 vs Q E hr h => ?_), FF.kp, b, mm⟩
  · obtain ⟨m, n, o, g, s, past, later, rfl, _⟩ := h
    rfl
  · obtain ⟨m, n, o, g, sh, past, later, rfl, mg0, hn, hO, hom, ok, hne, k⟩ := h
    refine ⟨_, pss_cons (ps_asg (pe_cal W1 hr (pa_cons (pv 0) (pa_cons (w_dget hr (pv 1) pe_str) pa_nil))) (pg_one 2 scRunOne.nd))
      (pss_cons (ps_asg (pe_cal W2 hr (pa_cons (w_dget hr (pv 1) pe_str) (pa_cons (w_dget hr (pv 1) pe_str) pa_nil))) (pg_one 3 scRunOne.nd))
      (pss_cons (ps_asg (pe_cmpR op_eq (pe_cal W3 hr (pa_cons (pv 0) (pa_cons pe_int pa_nil))) pe_int (nomark _)) (pg_one 4 scRunOne.nd))
      (pss_cons (ps_if (PW.pt (pw_and (pt_cmpR (w_neD K hr) (pv 3) (pe_lst pa_nil) (nomark _)) (pw_and1 (pt_cmpR op_gt (pe_cal W3 hr (pa_cons (pv 0) (pa_cons pe_int pa_nil))) pe_int (nomark _)))))
        (pss_one (ps_asg (pe_cal W4 hr (pa_cons (pv 2) (pa_cons (pe_cal W1 hr (pa_cons (pv 0) (pa_cons (pv 3) pa_nil))) pa_nil))) (pg_one 4 scRunOne.nd))) pss_nil)
      (pss_cons (ps_asg (pe_tup (pa_cons (pe_op (w_catT K) (w_dget hr (pv 1) pe_str) (pe_tup (pa_cons (pe_tup (pa_cons (pv 2) (pa_cons (pv 4) pa_nil))) pa_nil))) (pa_cons (pe_tup pa_nil) pa_nil)))
        (pg_tup (t := gCons (gSub (tVar 1) (tC (.str "past")) rSetD) (gCons (gSub (tVar 1) (tC (.str "later")) rSetD) gNil)) rfl (pgs_cons (pg_sub (pv 1) pe_str (w_setD hr)) (pgs_cons (pg_sub (pv 1) pe_str (w_setD hr)) pgs_nil))))
      (pss_one (ps_ret (pe_tup (pa_cons (pv 2) (pa_cons (pv 4) (pa_cons (w_len K T.len (pa_cons (pe_cal W5 hr (pa_cons (w_dget hr (pv 1) pe_str) (pa_cons (w_dget hr (pv 1) pe_str) (pa_cons (w_dget hr (pv 1) pe_str) pa_nil)))) pa_nil)) pa_nil)))))))))), ?_⟩
    have few := ok.few
    have nom : o ∉ [m] := fun z => hom (List.mem_singleton.mp z)
    have lr := rowsOf_len ok.game.rig
    have le := every_len ok.game
    -- the last two statements
    have fin : ∀ (u : TS) (r : Row) (bo : Bool) (vr v3 : L2.V) (n' : Nat) (D : Ends) (H : Hp), D.rt = Q → r ∈ rowsOf g → Dq H (eRow r) vr → MG m n' H → n' ≤ n + 4 → OwnAt H o g sh past later → Fx [m, o] H0 H →
        u = tRet (tTup (tCons (tVar 2) (tCons (tVar 4) (tCons (tCB (rLenQ K) (tCons (tCall (spA RLHeads) [] E0 (tCons (tDGet (tVar 1) (tC (.str "rows"))) (tCons (tDGet (tVar 1) (tC (.str "every"))) (tCons (tDGet (tVar 1) (tC (.str "past"))) tNil)))) tNil)) tNil)))) →
        tSeq (tAsg (tTup (tCons (tOp (rCatA K) (tDGet (tVar 1) (tC (.str "past"))) (tTup (tCons (tTup (tCons (tVar 2) (tCons (tVar 4) tNil))) tNil))) (tCons (tTup tNil) tNil))) (gTup K 2 (gCons (gSub (tVar 1) (tC (.str "past")) rSetD) (gCons (gSub (tVar 1) (tC (.str "later")) rSetD) gNil)))) u D [some (.ref m), some (.ref o), some vr, some v3, some (.bl bo)] H := by
      intro u r bo vr v3 n' D H hD hmem dr mg1 hn1 hO1 fx1 hu
      subst hu
      refine u_asgG ((ed_tup (ea_cons (ed_catT (K := K) (ds := past.map eOut) (es := [.tuple [eRow r, .bool bo]]) (ed_oPast (ed_var (i := 1) (P := aOw o g sh past later) rfl)) (ed_tup (ea_cons (ed_tup (ea_cons (ed_var (i := 2) (P := dA (eRow r)) rfl) (ea_cons (ed_var (i := 4) (P := dA (.bool bo)) rfl) ea_nil)) (show 2 ≤ sizeLine by decide)) ea_nil) (show 1 ≤ sizeLine by decide)) (szl (by simp; omega))) (ea_cons (ed_tup ea_nil (by decide)) ea_nil)) (show 2 ≤ sizeLine by decide) : Ed _ [some (vA (.ref m)), some (aOw o g sh past later), some (dA (eRow r)), none, some (dA (.bool bo))] _) _ H _ rfl (h_ab rfl (h_ab (A := aOw o g sh past later) ⟨rfl, hO1⟩ (h_ab dr (h_no (h_ab rfl h_nil))))) fun v2 H2 e2 d2 => ?_)
      obtain ⟨p, xs, rfl, hp, hx⟩ := d2
      obtain ⟨x, y, rfl, hx1, hy1⟩ := two_of hx
      have hx1' : Dq H2 (eLog (past ++ [(r, bo)])) x := by
        have q : PyData.tuple (past.map eOut ++ [PyData.tuple [eRow r, .bool bo]]) = eLog (past ++ [(r, bo)]) := by unfold eLog; simp [eOut]
        rw [← q]; exact hx1
      obtain ⟨H3, hp3, hO3, q3, rfl⟩ := (hO1.mono e2).putPast hx1'
      have hy3 : Dq (upd H2 o q3) (eLog []) y := Fx.dq (oth_one (hO1.mono e2).oth) fx_upd hy1
      obtain ⟨H4, hp4, hO4, q4, rfl⟩ := hO3.putLater hy3
      refine ⟨p, [x, y], rfl, SqT.of hp, rfl, x, [y], rfl, ⟨_, rfl, o, _, rfl, hp3, y, [], rfl, ⟨_, rfl, o, _, rfl, hp4, rfl, ?_⟩⟩⟩
      have fz4 : Fz [o] H (upd (upd H2 o q3) o q4) := ((Fz.of_same e2).trans fz_upd).trans fz_upd
      have mg4 : MG m n' (upd (upd H2 o q3) o q4) := mg1.fz fz4 (fun z => hom (List.mem_singleton.mp z).symm) (fun a ha => by rw [List.mem_singleton.mp ha]; obtain ⟨kvs, z, _⟩ := hO1; exact ⟨_, z, fun φ y => by cases y⟩)
      have dr4 : Dq (upd (upd H2 o q3) o q4) (eRow r) vr := Fx.dq (oth_one hO1.oth) fz4.fx dr
      refine go_ret (S := [none, some (aOw o g sh (past ++ [(r, bo)]) []), some (dA (eRow r)), none, some (dA (.bool bo))]) (P := dA (.tuple [eRow r, .bool bo, .int ((lawHeads (rowsOf g) (lawAll g sh) (past ++ [(r, bo)])).length : Nat)])) rfl (h_no (h_ab (A := aOw o g sh (past ++ [(r, bo)]) []) ⟨rfl, hO4⟩ (h_ab dr4 (h_no (h_ab rfl h_nil)))))
        (ed_tup (ea_cons (ed_var rfl) (ea_cons (ed_var rfl) (ea_cons (ed_is (ed_lenL (ds := (lawHeads (rowsOf g) (lawAll g sh) (past ++ [(r, bo)])).map eFl) (ea_cons (er_call (ea_cons (ed_oRows (ed_var rfl)) (ea_cons (ed_oEvery (ed_var rfl)) (ea_cons (ed_oPast (ed_var rfl)) ea_nil))) ⟨rowsOf g, lawAll g sh, past ++ [(r, bo)], rfl, by omega, by omega, by simp; omega, fun f hf p hp => ?_, fun f hf r' hr' => every_on ok.game hf hr', every_esrt g sh, rfl⟩) ea_nil)) (by simp)) ea_nil))) (show 3 ≤ sizeLine by decide)) fun v5 H5 e5 d5 => ?_
      · rcases List.mem_append.mp hp with z | z
        · exact every_on ok.game hf (ok.on1 p z)
        · rw [List.mem_singleton.mp z]; exact every_on ok.game hf hmem
      · rw [hD]
        exact k r bo v5 H5 n' hmem d5 (mg4.same e5) hn1 (hO4.mono e5) ((fx1.trans (fz4.fx.wide fun x hx => by simp at hx ⊢; exact .inr hx)).trans (Fx.of_same e5))
    refine u_asg (u_call (u_cons (u_var rfl (u_cons ((ed_oRows (ed_var (i := 1) (P := aOw o g sh past later) rfl) : Ed _ [none, some (aOw o g sh past later), none, none, none] _) _ _ _ rfl (h_no (h_ab (A := aOw o g sh past later) ⟨rfl, hO⟩ (h_no (h_no (h_no h_nil))))) fun vr0 H1 e1 d1 => u_nil ?_)))))
    refine ⟨m, n, _, vr0, rfl, d1, (fun z => hne (List.map_eq_nil_iff.mp z)), (by rw [List.length_map]; omega), mg0.same e1, by omega, fun i d vr H2 hd dr mg2 fx2 => ?_⟩
    rw [List.getElem?_map] at hd
    obtain ⟨r, hr0, rfl⟩ := Option.map_eq_some_iff.mp hd
    have hmem : r ∈ rowsOf g := List.mem_of_getElem? hr0
    have hO2 := (hO.mono e1).fx (lots_nd (mg0.same e1)) fx2 nom
    refine go_new (i := 3) (S := [none, some (aOw o g sh past later), some (dA (eRow r)), none, none]) (ds := (fitAll (lawAll g sh) past).map eFl) rfl (h_no (h_ab (A := aOw o g sh past later) ⟨rfl, hO2⟩ (h_ab dr (h_no (h_no h_nil))))) (ef_call (ea_cons (ed_oEvery (ed_var rfl)) (ea_cons (ed_oPast (ed_var rfl)) ea_nil)) ⟨lawAll g sh, past, rfl, by omega, by omega, fun f hf p hp => every_on ok.game hf (ok.on1 p hp), rfl⟩) fun q xs H3 hq e3 hql hqx => ?_
    have dq3 : Dq H3 (.list ((fitAll (lawAll g sh) past).map eFl)) (.ref q) := ⟨q, xs, rfl, hql, hqx⟩
    refine u_asg (u_opR (go_draw (S := List.replicate 5 none) (lim := 2) rfl (fun i P hi => by rw [List.getElem?_replicate] at hi; split at hi <;> cases hi) rfl (mg2.same e3) ed_int (by omega) (by omega) (by omega) fun z H4 hz mg4 fx4 => ⟨rfl, ?_⟩))
    have dr4 := Fx.dq (lots_nd (mg2.same e3)) fx4 (Dq.mono e3 _ _ dr)
    have dq4 := Fx.dq (lots_nd (mg2.same e3)) fx4 dq3
    have hO4 := (hO2.mono e3).fx (lots_nd (mg2.same e3)) fx4 nom
    have fx04 : Fx [m] H0 H4 := (((Fx.of_same e1).trans fx2).trans (Fx.of_same e3)).trans fx4
    have wd : ∀ {H H'}, Fx [m] H H' → Fx [m, o] H H' := fun h => h.wide fun x hx => by simp at hx ⊢; exact .inl hx
    refine go_ifand (S := [none, none, none, some (dA (.list ((fitAll (lawAll g sh) past).map eFl))), none]) rfl (h_no (h_no (h_no (h_ab dq4 (h_no h_nil))))) (et_test (ed_notNil (l := fitAll (lawAll g sh) past) (f := eFl) (ed_var rfl) (ed_lst ea_nil (by decide)) lay_fl (fun f => by have := depth_fl f; omega))) (fun hb H5 e5 => ?_) (fun hb H5 e5 => ?_)
    · exact fin _ r _ vr _ _ _ H5 rfl hmem (Dq.mono e5 _ _ dr4) (mg4.same e5) (by omega) (hO4.mono e5) (wd (fx04.trans (Fx.of_same e5))) rfl
    · have hfit : fitAll (lawAll g sh) past ≠ [] := fun z => by rw [z] at hb; simp at hb
      refine u_test (u_opR (go_draw (S := List.replicate 5 none) (lim := 6) rfl (fun i P hi => by rw [List.getElem?_replicate] at hi; split at hi <;> cases hi) rfl (mg4.same e5) ed_int (by omega) (by omega) (by omega) fun z2 H6 hz2 mg6 fx6 => ?_))
      have dr6 := Fx.dq (lots_nd (mg4.same e5)) fx6 (Dq.mono e5 _ _ dr4)
      have dq6 := Fx.dq (lots_nd (mg4.same e5)) fx6 (Dq.mono e5 _ _ dq4)
      have hO6 := (hO4.mono e5).fx (lots_nd (mg4.same e5)) fx6 nom
      have fx06 : Fx [m] H0 H6 := (fx04.trans (Fx.of_same e5)).trans fx6
      refine ⟨_, _, rfl, rfl, _, rfl, ?_⟩
      split
      · refine u_asgZ (u_call (u_cons (u_var rfl (u_cons (u_call (u_cons (u_var rfl (u_cons (u_var rfl (u_nil ⟨m, _, _, .ref q, rfl, dq6, (fun z => hfit (List.map_eq_nil_iff.mp z)), ?_, mg6, by omega, fun i2 d2 v2 H7 hd2 dv2 mg7 fx7 => u_nil ?_⟩))))))))))
        · rw [List.length_map]
          have : (fitAll (lawAll g sh) past).length ≤ (lawAll g sh).length := List.length_filter_le _ _
          omega
        · rw [List.getElem?_map] at hd2
          obtain ⟨fl, hfl, rfl⟩ := Option.map_eq_some_iff.mp hd2
          have hfm : fl ∈ lawAll g sh := (List.mem_filter.mp (List.mem_of_getElem? hfl : fl ∈ fitAll (lawAll g sh) past)).1
          have dr7 := Fx.dq (lots_nd mg6) fx7 dr6
          have hO7 := hO6.fx (lots_nd mg6) fx7 nom
          refine ⟨[eRow r, eFl fl], dA (.bool (fails r fl)), ⟨r, fl, rfl, every_on ok.game hfm hmem, rfl⟩, .cons dr7 (.one dv2), fun v8 H8 e8 d8 => ?_⟩
          cases d8
          exact fin _ r _ vr _ _ _ H8 rfl hmem (Dq.mono e8 _ _ dr7) (mg7.same e8) (by omega) (hO7.mono e8) (wd ((fx06.trans fx7).trans (Fx.of_same e8))) rfl
      · exact fin _ r _ vr _ _ _ H6 rfl hmem dr6 mg6 (by omega) hO6 (wd fx06) rfl
end Rn
end
section
set_option maxHeartbeats 4000000
/-! The texts that repr gives of these data are short. -/
namespace Rn
open PySem L2 PyProof.Rows PySem.W
structure Fine (k W : Nat) (d : PyData) : Prop where
  sh : d.showable = true
  nd : d.hasDict = false
  dp : d.depth ≤ k
  ln : d.shown.length ≤ W
theorem Fine.wide {k W k' W' : Nat} {d : PyData} (h : Fine k W d) (hk : k ≤ k') (hw : W ≤ W') : Fine k' W' d := ⟨h.sh, h.nd, Nat.le_trans h.dp hk, Nat.le_trans h.ln hw⟩
theorem fine_nat {n : Nat} (h : n < 10000) : Fine 0 5 (eN n) := by
  have h2 : (n : Int).natAbs < 10 ^ 4 := by simpa using h
  have h3 : (toString ((n : Nat) : Int)).length ≤ 4 + 1 := PySem.int_text_length_le10 (by decide) h2
  refine ⟨decide_eq_true ?_, rfl, Nat.le_refl _, ?_⟩
  · show (n : Int).natAbs.log2 < 1920
    have e : (n : Int).natAbs = n := rfl
    rw [e]
    by_cases h0 : n = 0
    · subst h0; decide
    · exact (Nat.log2_lt h0).mpr (Nat.lt_trans h (by decide))
  · show (Str.ofString (toString ((n : Nat) : Int))).length ≤ 5
    rw [PySem.ofString_length]
    exact h3
theorem fine_bool (b : Bool) : Fine 0 5 (.bool b) := ⟨rfl, rfl, Nat.le_refl _, by cases b <;> decide⟩
theorem fine_all {k W : Nat} : ∀ ds : List PyData, (∀ d ∈ ds, Fine k W d) → PyData.showableAll ds = true ∧ PyData.hasDictAll ds = false ∧ PyData.depthAll ds ≤ k ∧ ((PyData.shownAll ds).map (·.length)).sum ≤ ds.length * W ∧ (PyData.shownAll ds).length = ds.length
  | [], _ => ⟨rfl, rfl, Nat.zero_le _, by simp [PyData.shownAll], rfl⟩
  | d :: ds, h => by
    obtain ⟨h1, h2, h3, h4, h5⟩ := fine_all ds fun x hx => h x (by simp [hx])
    have f := h d (by simp)
    refine ⟨?_, ?_, ?_, ?_, ?_⟩
    · show (d.showable && PyData.showableAll ds) = true
      rw [f.sh, h1]; rfl
    · show (d.hasDict || PyData.hasDictAll ds) = false
      rw [f.nd, h2]; rfl
    · show max d.depth (PyData.depthAll ds) ≤ k
      exact Nat.max_le.mpr ⟨f.dp, h3⟩
    · have := f.ln
      simp only [PyData.shownAll, List.map_cons, List.sum_cons, List.length_cons, Nat.succ_mul]
      omega
    · simp [PyData.shownAll, h5]
theorem fine_tup {k W L : Nat} {ds : List PyData} (h : ∀ d ∈ ds, Fine k W d) (hl : ds.length ≤ L) : Fine (k + 1) (L * (W + 2) + 3) (.tuple ds) := by
  obtain ⟨h1, h2, h3, h4, h5⟩ := fine_all ds h
  refine ⟨h1, h2, Nat.succ_le_succ h3, ?_⟩
  have q := tupleText_len_le (PyData.shownAll ds)
  have q2 : ds.length * W ≤ L * W := Nat.mul_le_mul_right _ hl
  show (tupleText (PyData.shownAll ds)).length ≤ _
  rw [Nat.mul_add]
  omega
theorem fine_lst {k W L : Nat} {ds : List PyData} (h : ∀ d ∈ ds, Fine k W d) (hl : ds.length ≤ L) : Fine (k + 1) (L * (W + 2) + 3) (.list ds) := by
  obtain ⟨h1, h2, h3, h4, h5⟩ := fine_all ds h
  refine ⟨h1, h2, Nat.succ_le_succ h3, ?_⟩
  have q := listText_len_le (PyData.shownAll ds)
  have q2 : ds.length * W ≤ L * W := Nat.mul_le_mul_right _ hl
  show (listText (PyData.shownAll ds)).length ≤ _
  rw [Nat.mul_add]
  omega
/-! this program's data -/
theorem fine_row {r : Row} (h : ∀ x ∈ r, x < 10000) (hl : r.length ≤ 10) : Fine 1 73 (eRow r) := (fine_tup (L := 10) (fun d hd => by
  obtain ⟨x, hx, rfl⟩ := List.mem_map.mp hd
  exact fine_nat (h x hx)) (by rw [List.length_map]; exact hl)).wide (by omega) (by omega)
theorem fine_pr {p : Nat × Nat} (h1 : p.1 < 10000) (h2 : p.2 < 10000) : Fine 1 17 (ePr p) := (fine_tup (L := 2) (fun d hd => by
  simp at hd
  rcases hd with rfl | rfl
  · exact fine_nat h1
  · exact fine_nat h2) (by simp)).wide (by omega) (by omega)
theorem fine_lot {l : Lot} (h : ∀ p ∈ l, p.1 < 10000 ∧ p.2 < 10000) (hl : l.length ≤ 10) : Fine 2 193 (eLot l) := (fine_tup (L := 10) (fun d hd => by
  obtain ⟨x, hx, rfl⟩ := List.mem_map.mp hd
  exact fine_pr (h x hx).1 (h x hx).2) (by rw [List.length_map]; exact hl)).wide (by omega) (by omega)
theorem fine_fl {f : Fl} (h : ∀ l ∈ f, (∀ p ∈ l, p.1 < 10000 ∧ p.2 < 10000) ∧ l.length ≤ 10) (hl : f.length ≤ 10) : Fine 3 1953 (eFl f) := (fine_tup (L := 10) (fun d hd => by
  obtain ⟨x, hx, rfl⟩ := List.mem_map.mp hd
  exact fine_lot (h x hx).1 (h x hx).2) (by rw [List.length_map]; exact hl)).wide (by omega) (by omega)
theorem row_small {g : Rig} (h : RigWF g) {r : Row} (hr : r ∈ rowsOf g) : (∀ x ∈ r, x < 10000) ∧ r.length ≤ 10 := by
  obtain ⟨⟨h1, h2⟩, _⟩ := rowsOf_in hr
  have hl := h.sz.2.1
  refine ⟨fun x hx => ?_, by omega⟩
  obtain ⟨i, hi, e⟩ := List.mem_iff_getElem.mp hx
  have hi2 : i < g.1.length := by omega
  have hz : (r[i], g.1[i]) ∈ r.zip g.1 := by
    rw [List.mem_iff_getElem]
    exact ⟨i, by simp; omega, by simp⟩
  have q := h2 _ hz
  have q2 := h.sz.2.2 g.1[i] (List.getElem_mem hi2)
  simp at q
  omega
theorem fine_rig {g : Rig} (h : RigWF g) : Fine 5 4000 (eRig g) := by
  have hsz := h.sz
  have f1 : Fine 4 1957 (eRow g.1) := (fine_row (fun x hx => by have := hsz.2.2 x hx; omega) (by have := hsz.2.1; omega)).wide (by omega) (by omega)
  have f2 : Fine 4 1957 (eFl g.2) := (fine_fl (fun l hl => ?_) (by have := h.few; omega)).wide (by omega) (by omega)
  · refine (fine_tup (k := 4) (W := 1957) (L := 2) (fun d hd => ?_) (by simp)).wide (by omega) (by omega)
    simp at hd
    rcases hd with rfl | rfl
    · exact f1
    · exact f2
  · obtain ⟨h1, h2, h3, _⟩ := h.lot l hl
    refine ⟨fun p hp => ?_, by omega⟩
    obtain ⟨q1, q2⟩ := h3 p hp
    have q3 : g.1.getD p.1 0 ≤ 4 := by
      rw [List.getD_eq_getElem?_getD, List.getElem?_eq_getElem q1]
      exact (hsz.2.2 _ (List.getElem_mem q1)).2
    have := hsz.2.1
    omega
theorem fine_log {g : Rig} (h : RigWF g) {l : Log} (hl : ∀ p ∈ l, p.1 ∈ rowsOf g) (hn : l.length ≤ 100) : Fine 3 20000 (eLog l) := (fine_tup (k := 2) (W := 153) (L := 100) (fun d hd => by
  obtain ⟨p, hp, rfl⟩ := List.mem_map.mp hd
  obtain ⟨q1, q2⟩ := row_small h (hl p hp)
  have f1 : Fine 1 73 (eRow p.1) := fine_row q1 q2
  refine (fine_tup (k := 1) (W := 73) (L := 2) (fun d hd => ?_) (by simp)).wide (by omega) (by omega)
  simp at hd
  rcases hd with rfl | rfl
  · exact f1
  · exact (fine_bool p.2).wide (by omega) (by omega)) (by rw [List.length_map]; exact hn)).wide (by omega) (by omega)
theorem fault_small {g : Rig} {s : Nat × Nat} (h : GameOk g s) {f : Fl} (hf : f ∈ faultsOf g s) : (∀ l ∈ f, (∀ p ∈ l, p.1 < 10000 ∧ p.2 < 10000) ∧ l.length ≤ 10) ∧ f.length ≤ 10 := by
  have two : f.length ≤ 10 := by
    have h' : f ∈ setsRaw (progLots g s.1) s.2 := List.mem_mergeSort.mp hf
    unfold setsRaw at h'
    rcases List.mem_append.mp h' with q | q
    · rcases List.mem_cons.mp q with rfl | q
      · simp
      · obtain ⟨l, hl, rfl⟩ := List.mem_map.mp q
        simp
    · split at q
      · obtain ⟨q, hq, hf⟩ := List.mem_flatMap.mp q
        obtain ⟨o, ho, rfl⟩ := List.mem_map.mp hf
        simp
      · simp at q
  refine ⟨fun l hl => ?_, two⟩
  obtain ⟨ks, hks, r, hr, rfl⟩ := lotsRaw_mem.mp (List.mem_mergeSort.mp ((mem_sets hf).2 l hl))
  obtain ⟨k1, k2, _⟩ := knobsBy_mem.mp hks
  have := h.hi
  have := h.rig.sz.2.1
  obtain ⟨q1, q2⟩ := row_small h.rig hr
  refine ⟨fun p hp => ?_, by unfold restr; rw [List.length_map]; omega⟩
  obtain ⟨x, hx, rfl⟩ := List.mem_map.mp hp
  have := k2 x hx
  refine ⟨by show x < 10000; omega, ?_⟩
  show r.getD x 0 < 10000
  rw [List.getD_eq_getElem?_getD]
  cases e : r[x]? with
  | none => decide
  | some y => exact q1 y (List.mem_of_getElem? e)
theorem fine_fls {g : Rig} {s : Nat × Nat} (h : GameOk g s) {fs : List Fl} (hf : ∀ f ∈ fs, f ∈ faultsOf g s) (hn : fs.length ≤ 1000) : Fine 4 1960000 (.tuple (fs.map eFl)) := (fine_tup (k := 3) (W := 1953) (L := 1000) (fun d hd => by
  obtain ⟨f, hf', rfl⟩ := List.mem_map.mp hd
  obtain ⟨q1, q2⟩ := fault_small h (hf f hf')
  exact fine_fl q1 q2) (by rw [List.length_map]; exact hn)).wide (by omega) (by omega)
theorem left_len {g : Rig} {s : Nat × Nat} (h : GameOk g s) (log : Log) : (leftOf g s log).length ≤ 1000 := Nat.le_trans (List.length_filter_le _ _) (faults_len h)
theorem heads_len {g : Rig} {s : Nat × Nat} (h : GameOk g s) (log : Log) : (headsLeft g s log).length ≤ 1000 := by
  unfold headsLeft sortFls headsOf headsAcc
  rw [List.length_mergeSort, List.length_map]
  have q := headsAcc_len (rowsOf g) (leftOf g s log) []
  have := left_len h log
  simp at q
  omega
theorem heads_in {g : Rig} {s : Nat × Nat} {log : Log} {f : Fl} (hf : f ∈ headsLeft g s log) : f ∈ faultsOf g s := (List.mem_filter.mp (heads_sub _ _ (List.mem_mergeSort.mp hf))).1
theorem left_in {g : Rig} {s : Nat × Nat} {log : Log} {f : Fl} (hf : f ∈ leftOf g s log) : f ∈ faultsOf g s := (List.mem_filter.mp hf).1
/-- what the law tells of a bench -/
def eTold (g : Rig) (s : Nat × Nat) (past : Log) : PyData := .list [eRig g, eSh s, eLog past, .int (past.length : Nat), .tuple ((leftOf g s past).map eFl), .tuple ((headsLeft g s past).map eFl)]
theorem fine_told {g : Rig} {s : Nat × Nat} {past later : Log} (h : BOk g s past later) : Fine 6 sizeLine (eTold g s past) := by
  have ok := h.game
  have few := h.few
  have f1 : Fine 5 1960000 (eRig g) := (fine_rig ok.rig).wide (by omega) (by omega)
  have hm : s.2 < 10000 := by rcases ok.sets.2 with q | ⟨q, _⟩ <;> omega
  have hs : s.1 < 10000 := by have := ok.hi; have := ok.rig.sz.2.1; omega
  have f2 : Fine 5 1960000 (eSh s) := (fine_pr (p := s) hs hm).wide (by omega) (by omega)
  have f3 : Fine 5 1960000 (eLog past) := (fine_log ok.rig h.on1 (by omega)).wide (by omega) (by omega)
  have f4 : Fine 5 1960000 (.int (past.length : Nat)) := (fine_nat (n := past.length) (by omega)).wide (by omega) (by omega)
  have f5 : Fine 5 1960000 (.tuple ((leftOf g s past).map eFl)) := (fine_fls ok (fun f hf => left_in hf) (left_len ok past)).wide (by omega) (by omega)
  have f6 : Fine 5 1960000 (.tuple ((headsLeft g s past).map eFl)) := (fine_fls ok (fun f hf => heads_in hf) (heads_len ok past)).wide (by omega) (by omega)
  refine (fine_lst (k := 5) (W := 1960000) (L := 6) (fun d hd => ?_) (by simp)).wide (by omega) (by rw [show sizeLine = 16777216 from rfl]; omega)
  simp at hd
  rcases hd with rfl | rfl | rfl | rfl | rfl | rfl <;> assumption
end Rn
end
section
set_option maxHeartbeats 4000000
namespace Rn
open PySem L2 PyProof.Rows PySem.W
variable {P : Program} {w : World} {K : PySem.W.Frag} {mg : Str → Option Value} {base : Heap} {C : Addr}
theorem w_repr {X : Cx} {k : Nat} {e : Expr} {t : TA} {p pos : Pos} (hr : Room k X.A) (quiet : X.A.guards = some []) (hm : X.mg "repr" = none) (ha : PA X [e] t) (hg : Gl X "repr" := by rfl) (he : starEach [e] X.env = (false, eval e X.env) :: starEach [] X.env := by rfl) :
    PE X (.Call (.Name "repr" p) [e] [] pos) (tCB rRepr t) := pe_callB (call_repr (by have := hr.units; omega) quiet) hg hm boot_repr ha (he := he)
/-! _law_like -/
abbrev sLike : Stmt := top 50
theorem scLike : FnScope ["answer", "due"] ["answer", "due"] (defScope sLike) := ⟨rfl, rfl, rfl, by decide +kernel, rfl, by decide +kernel, by decide +kernel⟩
def spLike : Sp := fun vs H Q _ => ∃ a b d, vs = [a, b] ∧ Dq H d a ∧ Dq H d b ∧ Fine 16 sizeLine d ∧ Q (.bl true) H
theorem ok_like (T : Tb mg) (D : Dn K mg "_law_like" sLike ["answer", "due"]) : CalG P w K mg base 1 "_law_like" ["answer", "due"] spLike := by
  obtain ⟨f, fd, FF, b, mm⟩ := D
  refine ⟨f, fd, g_of FF scLike (fun vs H Q E h => ?_) (fun cdv A outer s H0 vs Q E hr quiet h => ?_), FF.kp, b, mm⟩
  · obtain ⟨a, b, d, rfl, _⟩ := h
    rfl
  · obtain ⟨a, b, d, rfl, da, db, fi, k⟩ := h
    refine ⟨_, pss_one (ps_ret (pe_cmpR op_eq (w_repr hr quiet T.repr (pa_cons (pv 0) pa_nil)) (w_repr hr quiet T.repr (pa_cons (pv 1) pa_nil)) (nomark _))), ?_⟩
    refine u_ret (u_op (u_cb (u_cons (u_var rfl (u_nil ⟨a, d, rfl, da, fi.sh, fi.nd, fi.dp, fi.ln, u_cb (u_cons (u_var rfl (u_nil ⟨b, d, rfl, db, fi.sh, fi.nd, fi.dp, fi.ln, rfl, ?_⟩)))⟩)))))
    show Q (.bl (decide (V.str d.shown = V.str d.shown))) H0
    rw [decide_eq_true rfl]
    exact k
/-! _law_stands -/
/-- what the law calls of the class -/
structure Ms (P : Program) (w : World) (K : PySem.W.Frag) (mg : Str → Option Value) (base : Heap) (C : Addr) : Prop where
  bx : Bx K mg C
  rig : CalP P w K mg base 1 C "rig" (spB0 C fun g _ _ => eRig g)
  shape : CalP P w K mg base 1 C "shape" (spB0 C fun _ s _ => eSh s)
  log : CalP P w K mg base 1 C "log" (spB0 C fun _ _ past => eLog past)
  len : CalM P w K mg base 1 C "__len__" ["self"] (spB0 C fun _ _ past => .int (past.length : Nat))
  left : CalM P w K mg base 7 C "left" ["self"] (spB0 C fun g s past => .tuple ((leftOf g s past).map eFl))
  heads : CalM P w K mg base 8 C "heads" ["self"] (spB0 C fun g s past => .tuple ((headsLeft g s past).map eFl))
  run : CalM P w K mg base 9 C "run" ["self", "row", "outcome"] (spRun C)
  undo : CalM P w K mg base 1 C "undo" ["self"] (spUndo C)
  redo : CalM P w K mg base 1 C "redo" ["self"] (spRedo C)
abbrev sStands : Stmt := top 65
theorem scStands : FnScope ["one", "own", "some", "heads_so", "told_so", "due"] ["one", "own"] (defScope sStands) := ⟨rfl, rfl, rfl, by decide +kernel, rfl, by decide +kernel, by decide +kernel⟩
def spStands (C : Addr) : Sp := fun vs H Q _ => ∃ x o g s past later, vs = [.ref x, .ref o] ∧ BenchAt C H x g s past later ∧ OwnAt H o g s past later ∧ BOk g s past later ∧ ∀ H', Same H H' → Q (.bl true) H'
theorem ok_stands (T : Tb mg) (M : Ms P w K mg base C) (D : Dn K mg "_law_stands" sStands ["one", "own"]) (W1 : Cal P w K mg base 3 "_law_fit" ["every", "log_so"] (spF RLFit)) (W2 : Cal P w K mg base 4 "_law_heads" ["rows", "every", "log_so"] (spA RLHeads))
    (W3 : CalG P w K mg base 1 "_law_like" ["answer", "due"] spLike) : CalG P w K mg base 9 "_law_stands" ["one", "own"] (spStands C) := by
  obtain ⟨f, fd, FF, b, mm⟩ := D
  refine ⟨f, fd, g_of FF scStands (fun vs H Q E h => ?_) (fun cdv A outer s H0 vs Q E hr quiet h => ?_), FF.kp, b, mm⟩
  · obtain ⟨x, o, g, s, past, later, rfl, _⟩ := h
    rfl
  · obtain ⟨x, o, g, sh, past, later, rfl, hb, hO, ok, k⟩ := h
    refine ⟨_, pss_cons (ps_asg (w_tuple K T.tuple (pa_cons (pe_cal W1 hr (pa_cons (w_dget hr (pv 1) pe_str) (pa_cons (w_dget hr (pv 1) pe_str) pa_nil))) pa_nil)) (pg_one 2 scStands.nd))
      (pss_cons (ps_asg (w_tuple K T.tuple (pa_cons (pe_cal W2 hr (pa_cons (w_dget hr (pv 1) pe_str) (pa_cons (w_dget hr (pv 1) pe_str) (pa_cons (w_dget hr (pv 1) pe_str) pa_nil)))) pa_nil)) (pg_one 3 scStands.nd))
      (pss_cons (ps_asg (pe_lst (pa_cons (pe_p M.rig M.bx.cl hr (pv 0)) (pa_cons (pe_p M.shape M.bx.cl hr (pv 0)) (pa_cons (pe_p M.log M.bx.cl hr (pv 0)) (pa_cons (w_lenM M.len hr T.len (pa_cons (pv 0) pa_nil)) (pa_cons (pe_m0 M.left M.bx.cl hr (pv 0)) (pa_cons (pe_m0 M.heads M.bx.cl hr (pv 0)) pa_nil))))))) (pg_one 4 scStands.nd))
      (pss_cons (ps_asg (pe_lst (pa_cons (w_dget hr (pv 1) pe_str) (pa_cons (w_dget hr (pv 1) pe_str) (pa_cons (w_dget hr (pv 1) pe_str) (pa_cons (w_len K T.len (pa_cons (w_dget hr (pv 1) pe_str) pa_nil)) (pa_cons (pv 2) (pa_cons (pv 3) pa_nil))))))) (pg_one 5 scStands.nd))
      (pss_one (ps_ret (pe_calG W3 hr quiet (pa_cons (pv 4) (pa_cons (pv 5) pa_nil)))))))), ?_⟩
    have few := ok.few
    have lr := rowsOf_len ok.game.rig
    have le := every_len ok.game
    refine go_asg (i := 2) (S := [some (bnX C x g sh past later), some (aOw o g sh past later), none, none, none, none]) (P := dA (.tuple ((leftOf g sh past).map eFl))) rfl (h_ab (A := bnX C x g sh past later) ⟨rfl, hb⟩ (h_ab (A := aOw o g sh past later) ⟨rfl, hO⟩ (h_no (h_no (h_no (h_no h_nil))))))
      (ed_is (ed_tupOf (ea_cons (Ef.ed (ef_call (ea_cons (ed_oEvery (ed_var rfl)) (ea_cons (ed_oPast (ed_var rfl)) ea_nil)) ⟨lawAll g sh, past, rfl, by omega, by omega, fun f hf p hp => every_on ok.game hf (ok.on1 p hp), rfl⟩)) ea_nil)) (by rw [left_same])) fun v1 H1 e1 d1 => ?_
    have hb1 := hb.mono e1
    have hO1 := hO.mono e1
    refine go_asg (i := 3) (S := [some (bnX C x g sh past later), some (aOw o g sh past later), some (dA (.tuple ((leftOf g sh past).map eFl))), none, none, none]) (P := dA (.tuple ((headsLeft g sh past).map eFl))) rfl (h_ab (A := bnX C x g sh past later) ⟨rfl, hb1⟩ (h_ab (A := aOw o g sh past later) ⟨rfl, hO1⟩ (h_ab d1 (h_no (h_no (h_no h_nil))))))
      (ed_is (ed_tupOf (ea_cons (er_call (ea_cons (ed_oRows (ed_var rfl)) (ea_cons (ed_oEvery (ed_var rfl)) (ea_cons (ed_oPast (ed_var rfl)) ea_nil))) ⟨rowsOf g, lawAll g sh, past, rfl, by omega, by omega, by omega, fun f hf p hp => every_on ok.game hf (ok.on1 p hp), fun f hf r hr' => every_on ok.game hf hr', every_esrt g sh, rfl⟩) ea_nil)) (by rw [heads_same])) fun v2 H2 e2 d2 => ?_
    have hb2 := hb1.mono e2
    have hO2 := hO1.mono e2
    refine go_asg (i := 4) (S := [some (bnX C x g sh past later), some (aOw o g sh past later), some (dA (.tuple ((leftOf g sh past).map eFl))), some (dA (.tuple ((headsLeft g sh past).map eFl))), none, none]) (P := dA (eTold g sh past)) rfl (h_ab (A := bnX C x g sh past later) ⟨rfl, hb2⟩ (h_ab (A := aOw o g sh past later) ⟨rfl, hO2⟩ (h_ab (Dq.mono e2 _ _ d1) (h_ab d2 (h_no (h_no h_nil))))))
      (ed_lst (ea_cons (ed_p0 (er_bn (ed_var (i := 0) rfl)) ok) (ea_cons (ed_p0 (er_bn (ed_var (i := 0) rfl)) ok) (ea_cons (ed_p0 (er_bn (ed_var (i := 0) rfl)) ok) (ea_cons (ed_lenM (er_bn (ed_var (i := 0) rfl)) ok) (ea_cons (ed_m0 (er_bn (ed_var (i := 0) rfl)) ok (fun _ _ _ _ => bn_left)) (ea_cons (ed_m0 (er_bn (ed_var (i := 0) rfl)) ok (fun _ _ _ _ => bn_heads)) ea_nil)))))) (show 6 ≤ sizeLine by decide)) fun v3 H3 e3 d3 => ?_
    have hO3 := hO2.mono e3
    refine go_asg (i := 5) (S := [none, some (aOw o g sh past later), some (dA (.tuple ((leftOf g sh past).map eFl))), some (dA (.tuple ((headsLeft g sh past).map eFl))), none, none]) (P := dA (eTold g sh past)) rfl (h_no (h_ab (A := aOw o g sh past later) ⟨rfl, hO3⟩ (h_ab (Dq.mono e3 _ _ (Dq.mono e2 _ _ d1)) (h_ab (Dq.mono e3 _ _ d2) (h_no (h_no h_nil))))))
      (ed_lst (ea_cons (ed_oRig (ed_var rfl)) (ea_cons (ed_oShape (ed_var rfl)) (ea_cons (ed_oPast (ed_var rfl)) (ea_cons (ed_is (ed_lenT (ds := past.map eOut) (ea_cons (ed_oPast (ed_var rfl)) ea_nil)) (by simp)) (ea_cons (ed_var rfl) (ea_cons (ed_var rfl) ea_nil)))))) (show 6 ≤ sizeLine by decide)) fun v4 H4 e4 d4 => ?_
    exact u_ret (u_call (u_cons (u_var rfl (u_cons (u_var rfl (u_nil ⟨v3, v4, eTold g sh past, rfl, Dq.mono e4 _ _ d3, d4, (fine_told ok).wide (by omega) (Nat.le_refl _), k H4 (((e1.trans e2).trans e3).trans e4)⟩))))))
end Rn
end
section
set_option maxHeartbeats 4000000
namespace Rn
open PySem L2 PyProof.Rows PySem.W
variable {P : Program} {w : World} {K : PySem.W.Frag} {mg : Str → Option Value} {base : Heap} {C : Addr}
theorem BOk.back {g : Rig} {s : Nat × Nat} {past later : Log} (h : BOk g s past later) : BOk g s (goBack (past, later)).1 (goBack (past, later)).2 := by
  have few := h.few
  refine ⟨h.game, ?_, fun p hp => h.on1 p (List.dropLast_subset _ hp), fun p hp => ?_⟩
  · show past.dropLast.length + (past.drop (past.length - 1) ++ later).length ≤ 40
    rw [List.length_dropLast, List.length_append, List.length_drop]
    omega
  · rcases List.mem_append.mp hp with q | q
    · exact h.on1 p (List.mem_of_mem_drop q)
    · exact h.on2 p q
theorem BOk.on {g : Rig} {s : Nat × Nat} {past later : Log} (h : BOk g s past later) : BOk g s (goOn (past, later)).1 (goOn (past, later)).2 := by
  have few := h.few
  refine ⟨h.game, ?_, fun p hp => ?_, fun p hp => h.on2 p (List.mem_of_mem_drop hp)⟩
  · show (past ++ later.take 1).length + (later.drop 1).length ≤ 40
    rw [List.length_append, List.length_drop, List.length_take]
    omega
  · rcases List.mem_append.mp hp with q | q
    · exact h.on1 p q
    · exact h.on2 p (List.mem_of_mem_take q)
theorem back_len (past later : Log) : (goBack (past, later)).1.length + (goBack (past, later)).2.length = past.length + later.length := by
  show past.dropLast.length + (past.drop (past.length - 1) ++ later).length = _
  rw [List.length_dropLast, List.length_append, List.length_drop]
  omega
theorem on_len (past later : Log) : (goOn (past, later)).1.length + (goOn (past, later)).2.length = past.length + later.length := by
  show (past ++ later.take 1).length + (later.drop 1).length = _
  rw [List.length_append, List.length_drop, List.length_take]
  omega
/-- a game under way -/
structure Game (C : Addr) (H : Hp) (m : Addr) (n : Nat) (x o : Addr) (g : Rig) (s : Nat × Nat) (past later : Log) : Prop where
  mg : MG m n H
  bench : BenchAt C H x g s past later
  own : OwnAt H o g s past later
  om : o ≠ m
  ok : BOk g s past later
  ne : rowsOf g ≠ []
section
variable {H H' : Hp} {m : Addr} {n : Nat} {x o : Addr} {g : Rig} {s : Nat × Nat} {past later : Log}
theorem Game.xm (G : Game C H m n x o g s past later) : x ≠ m := fun q => by
  obtain ⟨dx, va, vb, vc, vd, h1, _⟩ := G.bench
  obtain ⟨c, g', kvs, cs, gs, h2, _⟩ := G.mg
  rw [q, h2] at h1
  cases h1
theorem Game.xo (G : Game C H m n x o g s past later) : x ≠ o := fun q => by
  obtain ⟨dx, va, vb, vc, vd, h1, _⟩ := G.bench
  obtain ⟨kvs, h2, _⟩ := G.own
  rw [q, h2] at h1
  cases h1
theorem Game.same (e : Same H H') (G : Game C H m n x o g s past later) : Game C H' m n x o g s past later := ⟨G.mg.same e, G.bench.mono e, G.own.mono e, G.om, G.ok, G.ne⟩
theorem BenchAt.noExt (h : BenchAt C H x g s past later) : ∀ a ∈ [x], ∃ u, H a = some u ∧ ∀ φ, u ≠ HO.ext φ := fun a ha => by
  rw [List.mem_singleton.mp ha]
  obtain ⟨dx, va, vb, vc, vd, h1, _⟩ := h
  exact ⟨_, h1, fun φ z => by cases z⟩
theorem OwnAt.noExt (h : OwnAt H o g s past later) : ∀ a ∈ [o], ∃ u, H a = some u ∧ ∀ φ, u ≠ HO.ext φ := fun a ha => by
  rw [List.mem_singleton.mp ha]
  obtain ⟨kvs, h1, _⟩ := h
  exact ⟨_, h1, fun φ z => by cases z⟩
end
theorem not_in1 {a b : Addr} (h : a ≠ b) : a ∉ [b] := fun z => h (List.mem_singleton.mp z)
/-! _law_turn -/
abbrev sTurn : Stmt := top 69
theorem scTurn : FnScope ["m", "one", "own", "pick", "row", "outcome", "many"] ["m", "one", "own"] (defScope sTurn) := ⟨rfl, rfl, rfl, by decide +kernel, rfl, by decide +kernel, by decide +kernel⟩
def spTurn (C : Addr) : Sp := fun vs H Q _ => ∃ m n x o g s past later, vs = [.ref m, .ref x, .ref o] ∧ Game C H m n x o g s past later ∧ n ≤ 800000 ∧ past.length + later.length < 40 ∧
  ∀ H' n' past' later', Game C H' m n' x o g s past' later' → n' ≤ n + 5 → past'.length + later'.length ≤ past.length + later.length + 1 → Q (.bl true) H'
theorem ok_turn (T : Tb mg) (M : Ms P w K mg base C) (D : Dn K mg "_law_turn" sTurn ["m", "one", "own"]) (W1 : Cal P w K mg base 2 "_law_draw" ["m", "limit"] spDraw) (W2 : Cal P w K mg base 1 "_law_gone_back" ["own"] spGoBack) (W3 : Cal P w K mg base 1 "_law_gone_on" ["own"] spGoOn)
    (W4 : Cal P w K mg base 5 "_law_run_one" ["m", "own"] spRunOne) (W5 : CalG P w K mg base 1 "_law_like" ["answer", "due"] spLike) : CalG P w K mg base 10 "_law_turn" ["m", "one", "own"] (spTurn C) := by
  obtain ⟨f, fd, FF, b, mm⟩ := D
  refine ⟨f, fd, g_of FF scTurn (fun vs H Q E h => ?_) (fun cdv A outer s H0 vs Q E hr quiet h => ?_), FF.kp, b, mm⟩
  · obtain ⟨m, n, x, o, g, s, past, later, rfl, _⟩ := h
    rfl
  · obtain ⟨m, n, x, o, g, sh, past, later, rfl, G, hn, few, k⟩ := h
    refine ⟨_, pss_cons (ps_asg (pe_cal W1 hr (pa_cons (pv 0) (pa_cons pe_int pa_nil))) (pg_one 3 scTurn.nd))
      (pss_cons (ps_if (pt_cmpR op_eq (pv 3) pe_int (nomark _)) (pss_one (ps_ret (pe_calG W5 hr quiet (pa_cons (pe_m0 M.undo M.bx.cl hr (pv 1)) (pa_cons (pe_cal W2 hr (pa_cons (pv 2) pa_nil)) pa_nil))))) pss_nil)
      (pss_cons (ps_if (pt_cmpR op_eq (pv 3) pe_int (nomark _)) (pss_one (ps_ret (pe_calG W5 hr quiet (pa_cons (pe_m0 M.redo M.bx.cl hr (pv 1)) (pa_cons (pe_cal W3 hr (pa_cons (pv 2) pa_nil)) pa_nil))))) pss_nil)
      (pss_cons (ps_asg (pe_cal W4 hr (pa_cons (pv 0) (pa_cons (pv 2) pa_nil))) (pg_tup (t := gCons (gName 4) (gCons (gName 5) (gCons (gName 6) gNil))) rfl (pgs_cons (pg_one 4 scTurn.nd) (pgs_cons (pg_one 5 scTurn.nd) (pgs_cons (pg_one 6 scTurn.nd) pgs_nil)))))
      (pss_one (ps_ret (pe_calG W5 hr quiet (pa_cons (pe_m M.run M.bx.cl hr (pv 1) (pa_cons (pv 4) (pa_cons (pv 5) pa_nil))) (pa_cons (pv 6) pa_nil)))))))), ?_⟩
    refine u_asg (go_draw (S := List.replicate 7 none) (lim := 5) rfl (fun i P hi => by rw [List.getElem?_replicate] at hi; split at hi <;> cases hi) rfl G.mg ed_int (by omega) (by omega) (by omega) fun pick H1 hp mg1 fx1 => ?_)
    have G1 : Game C H1 m (n + 1) x o g sh past later := ⟨mg1, G.bench.fx (lots_nd G.mg) fx1 (not_in1 G.xm), G.own.fx (lots_nd G.mg) fx1 (not_in1 G.om), G.om, G.ok, G.ne⟩
    have hb1 := G1.bench
    have hO1 := G1.own
    have fine1 : ∀ b : Bool, Fine 16 sizeLine (.bool b) := fun b => (fine_bool b).wide (by omega) (by decide)
    refine go_ifs (S := [none, none, none, some (dA (eN pick)), none, none, none]) rfl (h_no (h_no (h_no (h_ab rfl (h_no (h_no (h_no h_nil))))))) (et_test (ed_eqI (i := (pick : Nat)) (ed_var rfl) ed_int)) (fun hb H2 e2 => ?_) fun hb H2 e2 => ?_
    · have G2 := G1.same e2
      obtain ⟨dx, va, vb, vc, vd, hx, _⟩ := id G2.bench
      refine u_ret (u_call (u_cons ⟨_, rfl, x, dx, _, rfl, hx, bn_undo, x, g, sh, past, later, rfl, G2.bench, G2.ok, fun H3 hb3 fz3 => u_cons (u_call (u_cons (u_var rfl (u_nil ⟨o, g, sh, past, later, rfl, G2.own.fx (oth_one G2.bench.oth) fz3.fx (not_in1 G2.xo.symm), by omega, fun H4 hO4 fz4 => u_nil ⟨_, _, .bool (!past.isEmpty), rfl, rfl, rfl, fine1 _, ?_⟩⟩))))⟩))
      have hO3 := G2.own.fx (oth_one G2.bench.oth) fz3.fx (not_in1 G2.xo.symm)
      refine k H4 (n + 1) _ _ ⟨(G2.mg.fz fz3 (not_in1 G2.xm.symm) G2.bench.noExt).fz fz4 (not_in1 G2.om.symm) hO3.noExt, hb3.fx (oth_one hO3.oth) fz4.fx (not_in1 G2.xo), hO4, G2.om, G2.ok.back, G2.ne⟩ (by omega) (by rw [back_len]; omega)
    refine go_ifs (S := [none, none, none, some (dA (eN pick)), none, none, none]) rfl (h_no (h_no (h_no (h_ab rfl (h_no (h_no (h_no h_nil))))))) (et_test (ed_eqI (i := (pick : Nat)) (ed_var rfl) ed_int)) (fun hb H3 e3 => ?_) fun hb H3 e3 => ?_
    · have G2 := (G1.same e2).same e3
      obtain ⟨dx, va, vb, vc, vd, hx, _⟩ := id G2.bench
      refine u_ret (u_call (u_cons ⟨_, rfl, x, dx, _, rfl, hx, bn_redo, x, g, sh, past, later, rfl, G2.bench, G2.ok, fun H3 hb3 fz3 => u_cons (u_call (u_cons (u_var rfl (u_nil ⟨o, g, sh, past, later, rfl, G2.own.fx (oth_one G2.bench.oth) fz3.fx (not_in1 G2.xo.symm), by omega, fun H4 hO4 fz4 => u_nil ⟨_, _, .bool (!later.isEmpty), rfl, rfl, rfl, fine1 _, ?_⟩⟩))))⟩))
      have hO3 := G2.own.fx (oth_one G2.bench.oth) fz3.fx (not_in1 G2.xo.symm)
      refine k H4 (n + 1) _ _ ⟨(G2.mg.fz fz3 (not_in1 G2.xm.symm) G2.bench.noExt).fz fz4 (not_in1 G2.om.symm) hO3.noExt, hb3.fx (oth_one hO3.oth) fz4.fx (not_in1 G2.xo), hO4, G2.om, G2.ok.on, G2.ne⟩ (by omega) (by rw [on_len]; omega)
    · have G3 := (G1.same e2).same e3
      refine u_asgG (u_call (u_cons (u_var rfl (u_cons (u_var rfl (u_nil ⟨m, n + 1, o, g, sh, past, later, rfl, G3.mg, by omega, G3.own, G3.om, G3.ok, G3.ne, fun r bo v H4 n4 hr4 dv mg4 hn4 hO4 fx4 => ?_⟩))))))
      obtain ⟨p, xs, rfl, hp, hx⟩ := dv
      obtain ⟨v1, r1, rfl, d1, hx⟩ := hx
      obtain ⟨v2, r2, rfl, d2, hx⟩ := hx
      obtain ⟨v3, r3, rfl, d3, hx⟩ := hx
      have e0 : r3 = [] := hx
      subst e0
      cases d2
      cases d3
      refine ⟨p, _, rfl, SqT.of hp, rfl, _, _, rfl, _, _, rfl, _, _, rfl, rfl, ?_⟩
      have oth2 : ∀ a ∈ [m, o], Oth H3 a := fun a ha => by
        simp at ha
        rcases ha with rfl | rfl
        · exact G3.mg.oth
        · exact G3.own.oth
      have hb4 := G3.bench.fx oth2 fx4 (fun z => by
        simp at z
        rcases z with z | z
        · exact G3.xm z
        · exact G3.xo z)
      obtain ⟨dx, va, vb, vc, vd, hx4, _⟩ := id hb4
      have ok5 : BOk g sh (past ++ [(r, bo)]) [] := ⟨G3.ok.game, by simp; omega, fun p hp => by
        rcases List.mem_append.mp hp with z | z
        · exact G3.ok.on1 p z
        · rw [List.mem_singleton.mp z]; exact hr4, fun p hp => by simp at hp⟩
      refine u_ret (u_call (u_cons ⟨_, rfl, x, dx, _, rfl, hx4, bn_run, u_cons (u_var rfl (u_cons (u_var rfl (u_nil ⟨x, g, sh, past, later, r, bo, v1, rfl, hb4, G3.ok, by omega, d1, hr4, fun H5 hb5 fz5 => u_cons (u_var rfl (u_nil ⟨_, _, .int ((headsLeft g sh (past ++ [(r, bo)])).length : Nat), rfl, rfl, ?_, ?_, ?_⟩))⟩))))⟩))
      · rw [heads_same]
        rfl
      · exact (fine_nat (n := (headsLeft g sh (past ++ [(r, bo)])).length) (by have := heads_len G3.ok.game (past ++ [(r, bo)]); omega)).wide (by omega) (by decide)
      · exact k H5 n4 _ _ ⟨mg4.fz fz5 (not_in1 G3.xm.symm) hb4.noExt, hb5, hO4.fx (oth_one hb4.oth) fz5.fx (not_in1 G3.xo.symm), G3.om, ok5, G3.ne⟩ (by omega) (by simp)
/-! _law_led -/
abbrev sLed : Stmt := top 70
theorem scLed : FnScope ["m", "one", "own", "many", "again"] ["m", "one", "own", "many"] (defScope sLed) := ⟨rfl, rfl, rfl, by decide +kernel, rfl, by decide +kernel, by decide +kernel⟩
def spLed (C : Addr) : Sp := fun vs H Q _ => ∃ m n x o g s k, vs = [.ref m, .ref x, .ref o, .int (k : Nat)] ∧ Game C H m n x o g s [] [] ∧ n ≤ 700000 ∧ k ≤ 20 ∧ ∀ H' n', MG m n' H' → n' ≤ n + 100 → Q (.bl true) H'
theorem ok_led (T : Tb mg) (D : Dn K mg "_law_led" sLed ["m", "one", "own", "many"]) (W1 : CalG P w K mg base 10 "_law_turn" ["m", "one", "own"] (spTurn C)) (W2 : CalG P w K mg base 9 "_law_stands" ["one", "own"] (spStands C)) : CalG P w K mg base 11 "_law_led" ["m", "one", "own", "many"] (spLed C) := by
  obtain ⟨f, fd, FF, b, mm⟩ := D
  refine ⟨f, fd, g_of FF scLed (fun vs H Q E h => ?_) (fun cdv A outer s H0 vs Q E hr quiet h => ?_), FF.kp, b, mm⟩
  · obtain ⟨m, n, x, o, g, s, k, rfl, _⟩ := h
    rfl
  · obtain ⟨m, n, x, o, g, sh, cnt, rfl, G, hn, hk, k⟩ := h
    refine ⟨_, pss_cons (ps_for PassesOwn.never rfl (pi_range1 (by rfl) T.range (pa_cons (pv 3) pa_nil)) (pg_one 4 scLed.nd)
        (pss_one (ps_if (PW.pt (pw_or (pt_not (pt_val (pe_calG W1 hr quiet (pa_cons (pv 0) (pa_cons (pv 1) (pa_cons (pv 2) pa_nil)))))) (pw_or1 (pt_not (pt_val (pe_calG W2 hr quiet (pa_cons (pv 1) (pa_cons (pv 2) pa_nil)))))))) (pss_one (ps_ret pe_bl)) pss_nil)))
      (pss_one (ps_ret pe_bl)), ?_⟩
    refine u_rng (u_var (x := .int (cnt : Nat)) rfl ?_)
    refine go_range (by omega) (fun i σ H => ∃ (n' : Nat) (past later : Log) (a4 : Option L2.V), σ = [some (.ref m), some (.ref x), some (.ref o), some (.int (cnt : Nat)), a4] ∧ Game C H m n' x o g sh past later ∧ n' ≤ n + 5 * i ∧ past.length + later.length ≤ i) ?_ ?_ ?_
    · exact ⟨n, [], [], none, rfl, G, by omega, by simp⟩
    · rintro i σ H D' hi ⟨n', past, later, a4, rfl, G1, hn1, hl1⟩ _ kk
      refine u_call (u_cons (u_var rfl (u_cons (u_var rfl (u_cons (u_var rfl (u_nil ⟨m, n', x, o, g, sh, past, later, rfl, G1, by omega, by omega, fun H2 n2 past2 later2 G2 hn2 hl2 => ⟨true, rfl, iteF ?_⟩⟩)))))))
      refine u_call (u_cons (u_var rfl (u_cons (u_var rfl (u_nil ⟨x, o, g, sh, past2, later2, rfl, G2.bench, G2.own, G2.ok, fun H3 e3 => ⟨true, rfl, iteF ?_⟩⟩)))))
      exact kk _ _ ⟨n2, past2, later2, _, rfl, G2.same e3, by omega, by omega⟩
    · rintro σ H ⟨n', past, later, a4, rfl, G1, hn1, hl1⟩
      exact k H n' G1.mg (by omega)
end Rn
end
section
set_option maxHeartbeats 4000000
namespace Rn
open PySem L2 PyProof.Rows PySem.W
def gOne : Rig := ([3], [])
def sOne : Nat × Nat := (1, 2)
def gNo : Rig := ([2], [[(0, 0)], [(0, 1)]])
def sNo : Nat × Nat := (1, 1)
def fTwo : Fl := [[(0, 0)], [(0, 2)]]
def log1 : Log := [([0], true)]
def log2 : Log := [([0], true), ([1], false)]
def log3 : Log := [([0], true), ([1], false), ([2], true)]
def log4 : Log := [([0], true), ([1], false), ([2], true), ([1], true)]
theorem one_raw : lotsRaw gOne 1 = [[(0, 0)], [(0, 1)], [(0, 2)]] := by decide +kernel
theorem one_lots : progLots gOne 1 = [[(0, 0)], [(0, 1)], [(0, 2)]] := by
  unfold progLots sortLots
  rw [one_raw]
  exact sort_is pinj_lot (by decide +kernel) (by decide +kernel)
def fOne : List Fl := [[], [[(0, 0)]], [[(0, 0)], [(0, 1)]], [[(0, 0)], [(0, 2)]], [[(0, 1)]], [[(0, 1)], [(0, 2)]], [[(0, 2)]]]
theorem one_faults : faultsOf gOne sOne = fOne := by
  unfold faultsOf setsOf sortFls
  rw [show sOne.1 = 1 from rfl, one_lots]
  exact sort_is pinj_fl (by decide +kernel) (by decide +kernel)
theorem szOne : SzWF [3] := ⟨by decide, by decide, by decide⟩
theorem rigOne : RigWF gOne := ⟨szOne, by decide, fun l hl => by simp [gOne] at hl, fun i hi => by simp [gOne] at hi⟩
theorem gameOne : GameOk gOne sOne := ⟨rigOne, by decide, by decide, by rw [show sOne.1 = 1 from rfl, one_lots]; exact ⟨by decide, .inr ⟨rfl, by decide⟩⟩⟩
theorem shOne : ShWF gOne sOne := ⟨by decide, by decide, by decide, by decide⟩
theorem rows_one : rowsOf gOne = [[0], [1], [2]] := by decide +kernel
theorem left_one (log : Log) : leftOf gOne sOne log = fOne.filter fun f => fits f log := by unfold leftOf; rw [one_faults]
theorem heads_one (log : Log) {n : Nat} (h : (headsOf [[0], [1], [2]] (fOne.filter fun f => fits f log)).length = n) : (headsLeft gOne sOne log).length = n := by
  unfold headsLeft sortFls
  rw [List.length_mergeSort, rows_one, left_one]
  exact h
theorem heads0 : (headsLeft gOne sOne []).length = 7 := heads_one _ (by decide +kernel)
theorem heads1 : (headsLeft gOne sOne log1).length = 3 := heads_one _ (by decide +kernel)
theorem heads2 : (headsLeft gOne sOne log2).length = 2 := heads_one _ (by decide +kernel)
theorem heads3 : (headsLeft gOne sOne log3).length = 1 := heads_one _ (by decide +kernel)
theorem heads4 : (headsLeft gOne sOne log4).length = 0 := heads_one _ (by decide +kernel)
theorem left3 : leftOf gOne sOne log3 = [fTwo] := by rw [left_one]; decide +kernel
theorem left4 : leftOf gOne sOne log4 = [] := by rw [left_one]; decide +kernel
theorem head3 : headsLeft gOne sOne log3 = [fTwo] := by
  unfold headsLeft sortFls
  rw [rows_one, left3]
  exact sort_is pinj_fl (by decide +kernel) (by decide +kernel)
theorem okOne {past later : Log} (h : past.length + later.length ≤ 40) (h1 : ∀ p ∈ past, p.1 ∈ ([[0], [1], [2]] : List Row)) (h2 : ∀ p ∈ later, p.1 ∈ ([[0], [1], [2]] : List Row)) : BOk gOne sOne past later := ⟨gameOne, h, by rw [rows_one]; exact h1, by rw [rows_one]; exact h2⟩
/-! the rig without rows -/
theorem rigNo : RigWF gNo := by
  refine ⟨⟨by decide, by decide, by decide⟩, by decide, fun l hl => ?_, fun i hi => ?_⟩
  · simp [gNo] at hl
    rcases hl with rfl | rfl
    · exact ⟨by decide, by decide, by decide, by decide⟩
    · exact ⟨by decide, by decide, by decide, by decide⟩
  · have e : i = 0 := by simp [gNo] at hi; omega
    subst e
    decide +kernel
theorem no_lots : progLots gNo 1 = [] := by
  unfold progLots sortLots
  rw [show lotsRaw gNo 1 = [] by decide +kernel]
  exact sort_is pinj_lot (by decide +kernel) (by decide +kernel)
theorem no_faults : faultsOf gNo sNo = [[]] := by
  unfold faultsOf setsOf sortFls
  rw [show sNo.1 = 1 from rfl, no_lots]
  exact sort_is pinj_fl (by decide +kernel) (by decide +kernel)
theorem gameNo : GameOk gNo sNo := ⟨rigNo, by decide, by decide, by rw [show sNo.1 = 1 from rfl, no_lots]; exact ⟨by decide, .inl rfl⟩⟩
theorem shNo : ShWF gNo sNo := ⟨by decide, by decide, by decide, by decide⟩
theorem left_no : leftOf gNo sNo [] = [[]] := by unfold leftOf; rw [no_faults]; decide +kernel
theorem head_no : headsLeft gNo sNo [] = [[]] := by
  unfold headsLeft sortFls
  rw [left_no, show rowsOf gNo = [] by decide +kernel]
  exact sort_is pinj_fl (by decide +kernel) (by decide +kernel)
theorem okNo : BOk gNo sNo [] [] := ⟨gameNo, by decide, fun p hp => by simp at hp, fun p hp => by simp at hp⟩
/-- what is due -/
def eDue : List PyData := [.int 7, .int 3, .int 2, .int 1, .tuple [eFl fTwo], .int 0, .tuple [], .bool true, .bool true, .bool true, .tuple [eFl fTwo]]
theorem fine_due : Fine 16 sizeLine (.list eDue) := ⟨by decide +kernel, by decide +kernel, by decide +kernel, by decide +kernel⟩
def eDueNo : List PyData := [.tuple [eFl []], .tuple [eFl []], .int 0]
theorem fine_dueNo : Fine 16 sizeLine (.list eDueNo) := ⟨by decide +kernel, by decide +kernel, by decide +kernel, by decide +kernel⟩
end Rn
end
section
set_option maxHeartbeats 4000000
namespace Rn
open PySem L2 PyProof.Rows PySem.W
variable {P : Program} {w : World} {K : PySem.W.Frag} {mg : Str → Option Value} {base : Heap} {C : Addr}
/-- Bench(..) may be called -/
def MkB (P : Program) (w : World) (K : PySem.W.Frag) (mg : Str → Option Value) (base : Heap) (C : Addr) : Prop := ∃ (f : Addr) (fd : FuncData), FnOk P w K mg base CX0 7 f fd ["self", "rig", "shape"] (spInit C) ∧ Mk K C f ∧ L2.Binds K fd ["self", "rig", "shape"] []
theorem pe_mk {X : Cx} {j : Nat} {t : TA} {p pos : Pos} {e : Expr} {es : List Expr} (c : MkB X.prog X.w X.K X.mg X.base C) (hm : X.mg "Bench" = some (.ref C)) (hr : Room j X.A) (ha : PA X (e :: es) t) (hkj : 7 + 1 ≤ j := by decide) (hg : Gl X "Bench" := by rfl)
    (he : starEach (e :: es) X.env = (false, eval e X.env) :: starEach es X.env := by rfl) (hpl : (backTo pos (starEach es X.env)).any (·.1) = false := by rfl) : PE X (.Call (.Name "Bench" p) (e :: es) [] pos) (tMake C (spInit C) [] E0 t) := by
  obtain ⟨f, fd, F, M, b⟩ := c
  exact pe_make M F (hr.mono hkj) hg hm b .nil pass0 ha (by decide) he hpl
section
variable {te ta tb : TE} {tt : TT} {t : TA} {u : TS} {D : Ends} {σ : L2.St} {H : Hp} {Q : VK} {S : Sto} {i j : Nat} {x : Addr} {g : Rig} {s : Nat × Nat} {past later : Log} {v : L2.V}
theorem u_c (q : Q v H) : tC v σ H Q := q
theorem u_par (h : t σ H fun vs H1 => ∃ v w, vs = [v, w] ∧ u D ((σ.set i (some v)).set j (some w)) H1) : tSeq (tPar i j t) u D σ H := h
theorem u_lst (h : t σ H fun vs H1 => vs.length ≤ sizeLine ∧ ∀ p, H1 p = none → Q (.ref p) (upd H1 p (.lst vs))) : tLst t σ H Q := h
theorem u_mk (h : t σ H fun vs H1 => ∀ x dx, H1 x = none → H1 dx = none → dx ≠ x → spInit C (.ref x :: (vs ++ [])) (upd (upd H1 dx (.own x)) x (.ins C dx [])) (fun v H2 => v = .non ∧ Q (.ref x) H2) E0) : tMake C (spInit C) [] E0 t σ H Q := h
theorem mk_at {R : Addr → Hp → Prop} {v1 v2 : L2.V} (d1 : Dq H (eRig g) v1) (d2 : Dq H (eSh s) v2) (ok : GameOk g s) (sw : ShWF g s) (k : ∀ x H3, H x = none → Same H H3 → BenchAt C H3 x g s [] [] → R x H3) :
    ∀ x dx, H x = none → H dx = none → dx ≠ x → spInit C (.ref x :: ([v1, v2] ++ [])) (upd (upd H dx (.own x)) x (.ins C dx [])) (fun v H2 => v = .non ∧ R x H2) E0 := fun x dx hx hd ne => by
  have s0 : Same H (upd (upd H dx (.own x)) x (.ins C dx [])) := fun b u e => by rw [upd_ne (ne_of_none e hx), upd_ne (ne_of_none e hd)]; exact e
  exact ⟨x, dx, g, s, v1, v2, rfl, upd_same, Dq.mono s0 _ _ d1, Dq.mono s0 _ _ d2, ok, sw, fun H3 hb fz => ⟨rfl, k x H3 hx (fun b u e => fz b u (fun z => by rw [List.mem_singleton.mp z, hx] at e; cases e) (s0 b u e)) hb⟩⟩
theorem go_m0 {m : Str} {val : Rig → Nat × Nat → Log → PyData} (nl : ∀ a b c d, (bfs a b c d).lookup m = none) (h0 : σ[i]? = some (some (.ref x))) (hb : BenchAt C H x g s past later) (ok : BOk g s past later) (k : ∀ v H', Same H H' → Dq H' (val g s past) v → Q v H') : tMeth C m (spB0 C val) [] E0 (tVar i) tNil σ H Q := by
  obtain ⟨dx, va, vb, vc, vd, hx, _⟩ := id hb
  exact ⟨_, h0, x, dx, _, rfl, hx, nl _ _ _ _, x, g, s, past, later, rfl, hb, ok, k⟩
theorem go_undo (h0 : σ[i]? = some (some (.ref x))) (hb : BenchAt C H x g s past later) (ok : BOk g s past later) (k : ∀ H', BenchAt C H' x g s (goBack (past, later)).1 (goBack (past, later)).2 → Fz [x] H H' → Q (.bl (!past.isEmpty)) H') : tMeth C "undo" (spUndo C) [] E0 (tVar i) tNil σ H Q := by
  obtain ⟨dx, va, vb, vc, vd, hx, _⟩ := id hb
  exact ⟨_, h0, x, dx, _, rfl, hx, bn_undo, x, g, s, past, later, rfl, hb, ok, k⟩
theorem go_redo (h0 : σ[i]? = some (some (.ref x))) (hb : BenchAt C H x g s past later) (ok : BOk g s past later) (k : ∀ H', BenchAt C H' x g s (goOn (past, later)).1 (goOn (past, later)).2 → Fz [x] H H' → Q (.bl (!later.isEmpty)) H') : tMeth C "redo" (spRedo C) [] E0 (tVar i) tNil σ H Q := by
  obtain ⟨dx, va, vb, vc, vd, hx, _⟩ := id hb
  exact ⟨_, h0, x, dx, _, rfl, hx, bn_redo, x, g, s, past, later, rfl, hb, ok, k⟩
theorem go_run {kk : Nat} {o : Bool} (h0 : σ[i]? = some (some (.ref x))) (hb : BenchAt C H x g s past later) (ok : BOk g s past later) (few : past.length < 40) (hm : [kk] ∈ rowsOf g)
    (k : ∀ H', BenchAt C H' x g s (past ++ [([kk], o)]) [] → Fz [x] H H' → Q (.int ((headsLeft g s (past ++ [([kk], o)])).length : Nat)) H') : tMeth C "run" (spRun C) [] E0 (tVar i) (tCons (tTup (tCons (tC (.int (kk : Nat))) tNil)) (tCons (tC (.bl o)) tNil)) σ H Q := by
  obtain ⟨dx, va, vb, vc, vd, hx, _⟩ := id hb
  refine ⟨_, h0, x, dx, _, rfl, hx, bn_run, ?_⟩
  refine u_cons ((ed_tup (ds := [eN kk]) (ea_cons ed_int ea_nil) (show 1 ≤ sizeLine by decide) : Ed _ (List.replicate σ.length none) _) σ H _ (by simp) (fun i P hi => by rw [List.getElem?_replicate] at hi; split at hi <;> cases hi) fun vr H2 e2 dr => ?_)
  exact u_cons (u_c (u_nil ⟨x, g, s, past, later, [kk], o, vr, rfl, hb.mono e2, ok, few, dr, hm, fun H' hb' fz => k H' hb' ((Fz.of_same e2).trans fz)⟩))
end
theorem ed_lenScr {a : Addr} {B : Hp} {S : Sto} {ns : List Int} (h : S[0]? = some (some (aScr K B a ns))) : Ed (tCB (rLenQ K) (tCons (tVar 0) tNil)) S (.int (ns.length : Nat)) := fun σ H Q hl hh k => by
  obtain ⟨v, hv, rfl, hS, e⟩ := hh 0 _ h
  exact ⟨_, hv, a, _, rfl, .inl (e.seq hS), k _ H (Same.refl H) (by rw [List.length_map]; rfl)⟩
theorem hold_none {H : Hp} {σ : L2.St} (n : Nat) : Hold H (List.replicate n none) σ := fun i P hi => by
  rw [List.getElem?_replicate] at hi
  split at hi <;> cases hi
def s5 (A : Ab) : Sto := [none, none, none, none, none, some A, none, none, none, none, none]
theorem hold5 {H : Hp} {A : Ab} {σ : L2.St} {v : L2.V} (h : σ[5]? = some (some v)) (hp : A.p v H) : Hold H (s5 A) σ := fun i P hi => by
  match i, hi with
  | 0, hi => cases hi
  | 1, hi => cases hi
  | 2, hi => cases hi
  | 3, hi => cases hi
  | 4, hi => cases hi
  | 5, hi => cases hi; exact ⟨v, h, hp⟩
  | 6, hi => cases hi
  | 7, hi => cases hi
  | 8, hi => cases hi
  | 9, hi => cases hi
  | 10, hi => cases hi
  | i + 11, hi => simp [s5] at hi
theorem go_drawI {te : TE} {σ : L2.St} {H : Hp} {Q : VK} {S : Sto} {m : Addr} {n lim i : Nat} (hl : σ.length = S.length) (hh : Hold H S σ) (hm : σ[i]? = some (some (L2.V.ref m))) (mg : MG m n H) (h : Ed te S (.int (lim : Nat))) (h1 : 1 ≤ lim) (h2 : lim ≤ 1000000) (h3 : n ≤ 1000000)
    (k : ∀ (r : Nat) H', r < lim → MG m (n + 1) H' → Fx [m] H H' → Q (.int (r : Nat)) H') : tCall spDraw [] E0 (tCons (tVar i) (tCons te tNil)) σ H Q := by
  refine u_call (u_cons (u_var hm (u_cons (h σ H _ hl hh fun v H1 e1 dv => u_nil ?_))))
  cases dv
  exact ⟨m, n, lim, rfl, mg.same e1, h1, h2, h3, fun r H' hr mg' fx => k r H' hr mg' ((Fx.of_same e1).trans fx)⟩
/-! law -/
abbrev sLawT : Stmt := top 72
theorem scLawT : FnScope ["script", "m", "turn", "rig_so", "shape_so", "one", "own", "two", "told_so", "due", "none"] ["script"] (defScope sLawT) := ⟨rfl, rfl, rfl, by decide +kernel, rfl, by decide +kernel, by decide +kernel⟩
def spLaw (K : PySem.W.Frag) : Sp := fun vs H Q _ => ∃ (a : Addr) (ns : List Int), vs = [.ref a] ∧ SqL K H a (ns.map V.int) ∧ ns.length ≤ 63 ∧ ∀ H', Q (.bl true) H'
theorem fn_law {f : Addr} {fd : FuncData} (T : Tb mg) (M : Ms P w K mg base C) (B : MkB P w K mg base C) (FF : Fun K "law" "law" sLawT f fd) (W1 : Cal P w K mg base 2 "_law_begun" ["script"] (spBegun K)) (W2 : Cal P w K mg base 6 "_law_good_rig" ["m", "most"] spGood) (W3 : Cal P w K mg base 4 "_law_shape" ["m", "rig_so"] spShape)
    (W4 : Cal P w K mg base 5 "_law_begin_bench" ["rig_so", "shape_so"] spBegin) (W5 : CalG P w K mg base 9 "_law_stands" ["one", "own"] (spStands C)) (W6 : CalG P w K mg base 11 "_law_led" ["m", "one", "own", "many"] (spLed C)) (W7 : Cal P w K mg base 2 "_law_draw" ["m", "limit"] spDraw)
    (W8 : CalG P w K mg base 1 "_law_like" ["answer", "due"] spLike) : FnG P w K mg base 12 f fd ["script"] (spLaw K) := by
  refine g_of FF scLawT (fun vs H Q E h => ?_) (fun cdv A outer s H0 vs Q E hr quiet h => ?_)
  · obtain ⟨a, ns, rfl, _⟩ := h
    rfl
  · obtain ⟨a, ns, rfl, hS, hz, k⟩ := h
    have at_ := M.bx.at_
    have cl := M.bx.cl
    refine ⟨_, (pss_cons (ps_asg (pe_cal W1 hr (pa_cons (pv 0) pa_nil)) (pg_one 1 scLawT.nd))
      (pss_cons (ps_for PassesOwn.never rfl (pi_range1 (by rfl) T.range (pa_cons (pe_op op_add pe_int (w_min T.min (pa_cons pe_int (pa_cons (w_len K T.len (pa_cons (pv 0) pa_nil)) pa_nil)))) pa_nil)) (pg_one 2 scLawT.nd)
        (pss_cons (ps_asg (pe_cal W2 hr (pa_cons (pv 1) (pa_cons pe_int pa_nil))) (pg_one 3 scLawT.nd))
      (pss_cons (ps_asg (pe_cal W3 hr (pa_cons (pv 1) (pa_cons (pv 3) pa_nil))) (pg_one 4 scLawT.nd))
      (pss_cons (ps_par (i := 5) (j := 6) rfl scLawT.nd rfl rfl (by decide) rfl rfl (pa_cons (pe_mk B at_ hr (pa_cons (pv 3) (pa_cons (pv 4) pa_nil))) (pa_cons (pe_cal W4 hr (pa_cons (pv 3) (pa_cons (pv 4) pa_nil))) pa_nil)) (by rfl))
      (pss_one (ps_if (PW.pt (pw_or (pt_not (pt_val (pe_calG W5 hr quiet (pa_cons (pv 5) (pa_cons (pv 6) pa_nil))))) (pw_or1 (pt_not (pt_val (pe_calG W6 hr quiet (pa_cons (pv 1) (pa_cons (pv 5) (pa_cons (pv 6) (pa_cons (pe_op op_add pe_int (pe_cal W7 hr (pa_cons (pv 1) (pa_cons pe_int pa_nil)))) pa_nil)))))))))) (pss_one (ps_ret pe_bl)) pss_nil))))))
      (pss_cons (ps_asg (pe_mk B at_ hr (pa_cons (pe_tup (pa_cons (pe_tup (pa_cons pe_int pa_nil)) (pa_cons (pe_tup pa_nil) pa_nil))) (pa_cons (pe_tup (pa_cons pe_int (pa_cons pe_int pa_nil))) pa_nil))) (pg_one 5 scLawT.nd))
      (pss_cons (ps_asg (pe_tup (pa_cons (pe_tup (pa_cons (pe_tup (pa_cons pe_int (pa_cons pe_int pa_nil))) pa_nil)) (pa_cons (pe_tup (pa_cons (pe_tup (pa_cons pe_int (pa_cons pe_int pa_nil))) pa_nil)) pa_nil))) (pg_one 7 scLawT.nd))
      (pss_cons (ps_asg (pe_lst (pa_cons (w_len K T.len (pa_cons (pe_m0 M.heads cl hr (pv 5)) pa_nil)) (pa_cons (pe_m M.run cl hr (pv 5) (pa_cons (pe_tup (pa_cons pe_int pa_nil)) (pa_cons pe_bl pa_nil))) (pa_cons (pe_m M.run cl hr (pv 5) (pa_cons (pe_tup (pa_cons pe_int pa_nil)) (pa_cons pe_bl pa_nil))) (pa_cons (pe_m M.run cl hr (pv 5) (pa_cons (pe_tup (pa_cons pe_int pa_nil)) (pa_cons pe_bl pa_nil))) pa_nil))))) (pg_one 8 scLawT.nd))
      (pss_cons (ps_asg (pe_op op_cat (pv 8) (pe_lst (pa_cons (pe_m0 M.left cl hr (pv 5)) (pa_cons (pe_m M.run cl hr (pv 5) (pa_cons (pe_tup (pa_cons pe_int pa_nil)) (pa_cons pe_bl pa_nil))) (pa_cons (pe_m0 M.left cl hr (pv 5)) (pa_cons (pe_m0 M.undo cl hr (pv 5)) (pa_cons (pe_m0 M.undo cl hr (pv 5)) pa_nil))))))) (pg_one 8 scLawT.nd))
      (pss_cons (ps_asg (pe_op op_cat (pv 8) (pe_lst (pa_cons (pe_m0 M.redo cl hr (pv 5)) (pa_cons (pe_m0 M.heads cl hr (pv 5)) pa_nil)))) (pg_one 8 scLawT.nd))
      (pss_cons (ps_asg (pe_lst (pa_cons pe_int (pa_cons pe_int (pa_cons pe_int (pa_cons pe_int (pa_cons (pe_tup (pa_cons (pv 7) pa_nil)) (pa_cons pe_int (pa_cons (pe_tup pa_nil) (pa_cons pe_bl (pa_cons pe_bl (pa_cons pe_bl (pa_cons (pe_tup (pa_cons (pv 7) pa_nil)) pa_nil)))))))))))) (pg_one 9 scLawT.nd))
      (pss_cons (ps_if (PW.pt (pw_or (pt_not (pt_val (pe_calG W8 hr quiet (pa_cons (pv 8) (pa_cons (pv 9) pa_nil))))) (pw_or (pt_cmpR op_isnot_bl (pe_m0 M.redo cl hr (pv 5)) pe_bl (by with_unfolding_all rfl)) (pw_or1 (pt_cmpR op_ne (w_lenM M.len hr T.len (pa_cons (pv 5) pa_nil)) pe_int (nomark _)))))) (pss_one (ps_ret pe_bl)) pss_nil)
      (pss_cons (ps_asg (pe_mk B at_ hr (pa_cons (pe_tup (pa_cons (pe_tup (pa_cons pe_int pa_nil)) (pa_cons (pe_tup (pa_cons (pe_tup (pa_cons (pe_tup (pa_cons pe_int (pa_cons pe_int pa_nil))) pa_nil)) (pa_cons (pe_tup (pa_cons (pe_tup (pa_cons pe_int (pa_cons pe_int pa_nil))) pa_nil)) pa_nil))) pa_nil))) (pa_cons (pe_tup (pa_cons pe_int (pa_cons pe_int pa_nil))) pa_nil))) (pg_one 10 scLawT.nd))
      (pss_one (ps_ret (pe_calG W8 hr quiet (pa_cons (pe_lst (pa_cons (pe_m0 M.heads cl hr (pv 10)) (pa_cons (pe_m0 M.left cl hr (pv 10)) (pa_cons (w_lenM M.len hr T.len (pa_cons (pv 10) pa_nil)) pa_nil)))) (pa_cons (pe_lst (pa_cons (pe_tup (pa_cons (pe_tup pa_nil) pa_nil)) (pa_cons (pe_tup (pa_cons (pe_tup pa_nil) pa_nil)) (pa_cons pe_int pa_nil)))) pa_nil))))))))))))))), ?_⟩
    refine u_asg (u_call (u_cons (u_var rfl (u_nil ⟨a, ns, rfl, hS, by omega, fun m H1 hm e1 mg1 => ?_⟩))))
    have hS1 : SqL K H1 a (ns.map V.int) := e1.seq hS
    have hr0 : Ed (tOp (rI0 fun i j => .int (i + j)) (tC (.int 3)) (tCB rMin2 (tCons (tC (.int 5)) (tCons (tCB (rLenQ K) (tCons (tVar 0) tNil)) tNil)))) (some (aScr K H1 a ns) :: List.replicate 10 none) (.int ((3 + min 5 ns.length : Nat) : Int)) := ed_is (ed_opI ed_int (ed_min2 (ea_cons ed_int (ea_cons (ed_lenScr rfl) ea_nil)))) (by congr 1; omega)
    refine u_rng (hr0 _ _ _ rfl (hold_one 10 rfl ⟨rfl, hS1, Same.refl _⟩) fun v2 H2 e2 d2 => ?_)
    cases d2
    refine go_range (by omega) (fun i σ H => ∃ (n' : Nat) (a2 a3 a4 a5 a6 : Option L2.V), σ = [some (.ref a), some (.ref m), a2, a3, a4, a5, a6, none, none, none, none] ∧ MG m n' H ∧ n' ≤ 200 * i) ?_ ?_ ?_
    · exact ⟨0, none, none, none, none, none, rfl, mg1.same e2, by omega⟩
    · rintro i σ H D' hi ⟨n', a2, a3, a4, a5, a6, rfl, mgi, hni⟩ _ kk
      refine u_asg (u_call (u_cons (u_var rfl (u_cons (u_c (u_nil ⟨m, n', rfl, mgi, by omega, fun g vg H3 n3 wf ne dg mg3 hn3 fx3 => ?_⟩))))))
      refine u_asg (u_call (u_cons (u_var rfl (u_cons (u_var rfl (u_nil ⟨m, n3, g, vg, rfl, dg, wf, mg3, by omega, fun s vs H4 n4 lok ds mg4 hn4 fx4 => ?_⟩))))))
      have dg4 := Fx.dq (lots_nd mg3) fx4 dg
      have sw : ShWF g s := ⟨lok.lo, lok.hi, by rcases lok.sets.2 with q | ⟨q, _⟩ <;> omega, by rcases lok.sets.2 with q | ⟨q, _⟩ <;> omega⟩
      refine u_par (u_cons (u_mk (u_cons (u_var rfl (u_cons (u_var rfl (u_nil (mk_at dg4 ds lok.game sw fun x H5 hx e5 hb => ?_))))))))
      refine u_cons (u_call (u_cons (u_var rfl (u_cons (u_var rfl (u_nil ⟨g, s, vg, vs, rfl, Dq.mono e5 _ _ dg4, Dq.mono e5 _ _ ds, lok, fun o H6 ho e6 hO => u_nil ⟨_, _, rfl, ?_⟩⟩))))))
      have om : o ≠ m := fun z => by
        obtain ⟨u, hu, _⟩ := (mg4.same e5).oth
        rw [← z, ho] at hu
        cases hu
      have ok0 : BOk g s [] [] := ⟨lok.game, by simp, fun p hp => by simp at hp, fun p hp => by simp at hp⟩
      refine u_call (u_cons (u_var rfl (u_cons (u_var rfl (u_nil ⟨x, o, g, s, [], [], rfl, hb.mono e6, hO, ok0, fun H7 e7 => ⟨true, rfl, iteF ?_⟩⟩)))))
      have G : Game C H7 m n4 x o g s [] [] := Game.same e7 ⟨(mg4.same e5).same e6, hb.mono e6, hO, om, ok0, ne⟩
      refine u_call (u_cons (u_var rfl (u_cons (u_var rfl (u_cons (u_var rfl (u_cons (u_opC (go_drawI (i := 1) (S := List.replicate 11 none) (lim := 11) rfl (hold_none 11) rfl G.mg ed_int (by omega) (by omega) (by omega) fun r H8 hr8 mg8 fx8 => ⟨5, (r : Nat), rfl, rfl, u_nil ⟨m, n4 + 1, x, o, g, s, 5 + r, congrArg (fun z => [V.ref m, V.ref x, V.ref o, V.int z]) (by omega), ⟨mg8, G.bench.fx (lots_nd G.mg) fx8 (not_in1 G.xm), G.own.fx (lots_nd G.mg) fx8 (not_in1 G.om), om, ok0, ne⟩, by omega, by omega, fun H9 n9 mg9 hn9 => ⟨true, rfl, iteF ?_⟩⟩⟩)))))))))
      exact kk _ _ ⟨n9, _, _, _, _, _, rfl, mg9, by omega⟩
    · rintro σ H ⟨n', a2, a3, a4, a5, a6, rfl, _, _⟩
      have E1 : Ea (tCons (tTup (tCons (tTup (tCons (tC (.int 3)) tNil)) (tCons (tTup tNil) tNil))) (tCons (tTup (tCons (tC (.int 1)) (tCons (tC (.int 2)) tNil))) tNil)) (List.replicate 11 none) [eRig gOne, eSh sOne] :=
        ea_cons (ed_tup (ds := [eRow [3], eFl []]) (ea_cons (ed_tup (ds := [eN 3]) (ea_cons ed_int ea_nil) (show 1 ≤ sizeLine by decide)) (ea_cons (ed_tup ea_nil (by decide)) ea_nil)) (show 2 ≤ sizeLine by decide)) (ea_cons (ed_tup (ds := [eN 1, eN 2]) (ea_cons ed_int (ea_cons ed_int ea_nil)) (show 2 ≤ sizeLine by decide)) ea_nil)
      refine u_asg (u_mk (E1 _ _ _ rfl (hold_none 11) fun vs H1 e1 dvs => ?_))
      obtain ⟨v1, v2, rfl, d1, d2⟩ := two_of dvs
      refine mk_at d1 d2 gameOne shOne fun x H2 hx e2 hb2 => ?_
      refine go_asg (i := 7) (S := List.replicate 11 none) (P := dA (eFl fTwo)) rfl (hold_none 11) (ed_tup (ds := [eLot [(0, 0)], eLot [(0, 2)]]) (ea_cons (ed_tup (ds := [ePr (0, 0)]) (ea_cons (ed_tup (ds := [eN 0, eN 0]) (ea_cons ed_int (ea_cons ed_int ea_nil)) (show 2 ≤ sizeLine by decide)) ea_nil) (show 1 ≤ sizeLine by decide)) (ea_cons (ed_tup (ds := [ePr (0, 2)]) (ea_cons (ed_tup (ds := [eN 0, eN 2]) (ea_cons ed_int (ea_cons ed_int ea_nil)) (show 2 ≤ sizeLine by decide)) ea_nil) (show 1 ≤ sizeLine by decide)) ea_nil)) (show 2 ≤ sizeLine by decide)) fun vt H3 e3 dt => ?_
      have hb3 := hb2.mono e3
      have ok0 : BOk gOne sOne [] [] := okOne (by decide) (by decide) (by decide)
      have ok1 : BOk gOne sOne log1 [] := okOne (by decide) (by decide) (by decide)
      have ok2 : BOk gOne sOne log2 [] := okOne (by decide) (by decide) (by decide)
      have ok3 : BOk gOne sOne log3 [] := okOne (by decide) (by decide) (by decide)
      have ok4 : BOk gOne sOne log4 [] := okOne (by decide) (by decide) (by decide)
      have ok31 : BOk gOne sOne log3 [([1], true)] := okOne (by decide) (by decide) (by decide)
      have ok22 : BOk gOne sOne log2 [([2], true), ([1], true)] := okOne (by decide) (by decide) (by decide)
      have in0 : [0] ∈ rowsOf gOne := by rw [rows_one]; simp
      have in1 : [1] ∈ rowsOf gOne := by rw [rows_one]; simp
      have in2 : [2] ∈ rowsOf gOne := by rw [rows_one]; simp
      have L7 : Ed (tCB (rLenQ K) (tCons (tMeth C "heads" (spB0 C fun g s past => .tuple ((headsLeft g s past).map eFl)) [] E0 (tVar 5) tNil) tNil)) (s5 (bnX C x gOne sOne [] [])) (.int 7) := ed_is (ed_lenT (ds := (headsLeft gOne sOne []).map eFl) (ea_cons (ed_m0 (val := fun g s past => .tuple ((headsLeft g s past).map eFl)) (er_bn (ed_var (i := 5) (P := bnX C x gOne sOne [] []) rfl)) ok0 (fun _ _ _ _ => bn_heads)) ea_nil)) (by rw [List.length_map, heads0]; rfl)
      refine u_asg (u_lst (u_cons (L7 _ _ _ rfl (hold5 rfl ⟨rfl, hb3⟩) fun v4 H4 e4 d4 => ?_)))
      cases d4
      refine u_cons (go_run (kk := 0) (past := []) (later := []) rfl (hb3.mono e4) ok0 (by decide) in0 fun H5 hb5 fz5 => ?_)
      refine u_cons (go_run (kk := 1) (past := log1) (later := []) rfl hb5 ok1 (by decide) in1 fun H6 hb6 fz6 => ?_)
      refine u_cons (go_run (kk := 2) (past := log2) (later := []) rfl hb6 ok2 (by decide) in2 fun H7 hb7 fz7 => u_nil ⟨(show 4 ≤ sizeLine by decide), fun p hp => ?_⟩)
      have hb7' : BenchAt C H7 x gOne sOne log3 [] := hb7
      have npx : p ≠ x := fun z => by obtain ⟨u, hu, _⟩ := hb7'.oth; rw [← z, hp] at hu; cases hu
      have q5 : V.int ((headsLeft gOne sOne ([] ++ [([0], true)])).length : Nat) = V.int 3 := by rw [show ([] ++ [([0], true)] : Log) = log1 from rfl, heads1]; rfl
      have q6 : V.int ((headsLeft gOne sOne (log1 ++ [([1], false)])).length : Nat) = V.int 2 := by rw [show (log1 ++ [([1], false)] : Log) = log2 from rfl, heads2]; rfl
      have q7 : V.int ((headsLeft gOne sOne (log2 ++ [([2], true)])).length : Nat) = V.int 1 := by rw [show (log2 ++ [([2], true)] : Log) = log3 from rfl, heads3]; rfl
      rw [q5, q6, q7]
      have e8 : Same H7 (upd H7 p (.lst [.int 7, .int 3, .int 2, .int 1])) := Same.new hp
      have f38 : Fz [x] H3 (upd H7 p (.lst [.int 7, .int 3, .int 2, .int 1])) := ((((Fz.of_same e4).trans fz5).trans fz6).trans fz7).trans (Fz.of_same e8)
      generalize hH8 : upd H7 p (.lst [.int 7, .int 3, .int 2, .int 1]) = H8 at e8 f38
      have hp8 : H8 p = some (.lst [.int 7, .int 3, .int 2, .int 1]) := by rw [← hH8]; exact upd_same
      have hb8 := hb7'.mono e8
      refine u_asg (u_op (u_var rfl (u_lst (u_cons (go_m0 (fun _ _ _ _ => bn_left) rfl hb8 ok3 fun vl H9 e9 dl => ?_)))))
      rw [left3] at dl
      refine u_cons (go_run (kk := 1) (past := log3) (later := []) rfl (hb8.mono e9) ok3 (by decide) in1 fun H10 hb10 fz10 => ?_)
      have hb10' : BenchAt C H10 x gOne sOne log4 [] := hb10
      have q10 : V.int ((headsLeft gOne sOne (log3 ++ [([1], true)])).length : Nat) = V.int 0 := by rw [show (log3 ++ [([1], true)] : Log) = log4 from rfl, heads4]; rfl
      rw [q10]
      refine u_cons (go_m0 (fun _ _ _ _ => bn_left) rfl hb10' ok4 fun vl2 H11 e11 dl2 => ?_)
      rw [left4] at dl2
      refine u_cons (go_undo (past := log4) (later := []) rfl (hb10'.mono e11) ok4 fun H12 hb12 fz12 => ?_)
      have hb12' : BenchAt C H12 x gOne sOne log3 [([1], true)] := hb12
      refine u_cons (go_undo (past := log3) (later := [([1], true)]) rfl hb12' ok31 fun H13 hb13 fz13 => u_nil ⟨(show 5 ≤ sizeLine by decide), fun p2 hp2 => ?_⟩)
      have hb13' : BenchAt C H13 x gOne sOne log2 [([2], true), ([1], true)] := hb13
      have f913 : Fz [x] H9 H13 := ((fz10.trans (Fz.of_same e11)).trans fz12).trans fz13
      have f1113 : Fz [x] H11 H13 := fz12.trans fz13
      have hp13 : H13 p = some (.lst [.int 7, .int 3, .int 2, .int 1]) := f913 _ _ (not_in1 npx) (e9 _ _ hp8)
      have np2 : p ≠ p2 := fun z => by rw [← z, hp13] at hp2; cases hp2
      refine ⟨p, p2, _, _, rfl, rfl, (upd_ne np2).trans hp13, upd_same, (show 9 ≤ sizeLine by decide), fun p3 hp3 => ?_⟩
      have e14 : Same H13 (upd (upd H13 p2 (.lst [vl, .int 0, vl2, .bl true, .bl true])) p3 (.lst [.int 7, .int 3, .int 2, .int 1, vl, .int 0, vl2, .bl true, .bl true])) := Same.mut (Same.new hp2) (Same.free (Same.new hp2) hp3)
      have hb14 := hb13'.mono e14
      have hp14 : (upd (upd H13 p2 (.lst [vl, .int 0, vl2, .bl true, .bl true])) p3 (.lst [.int 7, .int 3, .int 2, .int 1, vl, .int 0, vl2, .bl true, .bl true])) p3 = some (.lst [.int 7, .int 3, .int 2, .int 1, vl, .int 0, vl2, .bl true, .bl true]) := upd_same
      have f814 : Fz [x] H8 (upd (upd H13 p2 (.lst [vl, .int 0, vl2, .bl true, .bl true])) p3 (.lst [.int 7, .int 3, .int 2, .int 1, vl, .int 0, vl2, .bl true, .bl true])) := ((Fz.of_same e9).trans f913).trans (Fz.of_same e14)
      have np3 : p3 ≠ x := fun z => by obtain ⟨u, hu, _⟩ := (hb13'.mono (Same.new hp2 : Same H13 (upd H13 p2 (.lst [vl, .int 0, vl2, .bl true, .bl true])))).oth; rw [← z] at hu; exact absurd (hp3.symm.trans hu) (by simp)
      have dl14 := Dq.mono e14 _ _ (Fx.dq (oth_one (hb8.mono e9).oth) f913.fx dl)
      have dl214 := Dq.mono e14 _ _ (Fx.dq (oth_one (hb10'.mono e11).oth) f1113.fx dl2)
      refine u_asg (u_op (u_var rfl (u_lst (u_cons (go_redo (past := log2) (later := [([2], true), ([1], true)]) rfl hb14 ok22 fun H15 hb15 fz15 => ?_)))))
      have hb15' : BenchAt C H15 x gOne sOne log3 [([1], true)] := hb15
      refine u_cons (go_m0 (fun _ _ _ _ => bn_heads) rfl hb15' ok31 fun vh H16 e16 dh => u_nil ⟨(show 2 ≤ sizeLine by decide), fun p4 hp4 => ?_⟩)
      rw [head3] at dh
      have hp16 := e16 _ _ (fz15 _ _ (not_in1 np3) hp14)
      have np4 : p3 ≠ p4 := fun z => by rw [← z, hp16] at hp4; cases hp4
      refine ⟨p3, p4, _, _, rfl, rfl, (upd_ne np4).trans hp16, upd_same, (show 11 ≤ sizeLine by decide), fun p5 hp5 => ?_⟩
      have e17 : Same H16 (upd (upd H16 p4 (.lst [.bl true, vh])) p5 (.lst [.int 7, .int 3, .int 2, .int 1, vl, .int 0, vl2, .bl true, .bl true, .bl true, vh])) := Same.mut (Same.new hp4) (Same.free (Same.new hp4) hp5)
      have hp17 : (upd (upd H16 p4 (.lst [.bl true, vh])) p5 (.lst [.int 7, .int 3, .int 2, .int 1, vl, .int 0, vl2, .bl true, .bl true, .bl true, vh])) p5 = some (.lst [.int 7, .int 3, .int 2, .int 1, vl, .int 0, vl2, .bl true, .bl true, .bl true, vh]) := upd_same
      have f1417 : Fz [x] (upd (upd H13 p2 (.lst [vl, .int 0, vl2, .bl true, .bl true])) p3 (.lst [.int 7, .int 3, .int 2, .int 1, vl, .int 0, vl2, .bl true, .bl true])) (upd (upd H16 p4 (.lst [.bl true, vh])) p5 (.lst [.int 7, .int 3, .int 2, .int 1, vl, .int 0, vl2, .bl true, .bl true, .bl true, vh])) := (fz15.trans (Fz.of_same e16)).trans (Fz.of_same e17)
      have hb17 := (hb15'.mono e16).mono e17
      have dh17 := Dq.mono e17 _ _ dh
      have dl17 := Fx.dq (oth_one hb14.oth) f1417.fx dl14
      have dl217 := Fx.dq (oth_one hb14.oth) f1417.fx dl214
      have dt17 := Fx.dq (oth_one hb14.oth) f1417.fx (Fx.dq (oth_one hb8.oth) f814.fx (Fx.dq (oth_one hb3.oth) f38.fx dt))
      have dlist : Dq (upd (upd H16 p4 (.lst [.bl true, vh])) p5 (.lst [.int 7, .int 3, .int 2, .int 1, vl, .int 0, vl2, .bl true, .bl true, .bl true, vh])) (.list eDue) (.ref p5) := ⟨p5, _, rfl, hp17, .cons rfl (.cons rfl (.cons rfl (.cons rfl (.cons dl17 (.cons rfl (.cons dl217 (.cons rfl (.cons rfl (.cons rfl (.one dh17))))))))))⟩
      refine go_asg (i := 9) (S := [none, none, none, none, none, none, none, some (dA (eFl fTwo)), none, none, none]) (P := dA (.list eDue)) rfl (h_no (h_no (h_no (h_no (h_no (h_no (h_no (h_ab dt17 (h_no (h_no (h_no h_nil)))))))))))
        (ed_lst (ds := eDue) (ea_cons ed_int (ea_cons ed_int (ea_cons ed_int (ea_cons ed_int (ea_cons (ed_tup (ds := [eFl fTwo]) (ea_cons (ed_var rfl) ea_nil) (show 1 ≤ sizeLine by decide)) (ea_cons ed_int (ea_cons (ed_tup ea_nil (by decide)) (ea_cons ed_bl (ea_cons ed_bl (ea_cons ed_bl (ea_cons (ed_tup (ds := [eFl fTwo]) (ea_cons (ed_var rfl) ea_nil) (show 1 ≤ sizeLine by decide)) ea_nil))))))))))) (show 11 ≤ sizeLine by decide)) fun vd H18 e18 dd => ?_
      have hb18 := hb17.mono e18
      refine u_call (u_cons (u_var rfl (u_cons (u_var rfl (u_nil ⟨_, _, .list eDue, rfl, Dq.mono e18 _ _ dlist, dd, fine_due, ⟨true, rfl, iteF ?_⟩⟩)))))
      refine u_test (u_opR (go_redo (past := log3) (later := [([1], true)]) rfl hb18 ok31 fun H19 hb19 fz19 => ⟨_, _, rfl, rfl, false, rfl, iteF ?_⟩))
      have hb19' : BenchAt C H19 x gOne sOne log4 [] := hb19
      have L4 : Et (tTest (tOp rNe (tCB (rLenM C (spB0 C fun _ _ past => .int (past.length : Nat))) (tCons (tVar 5) tNil)) (tC (.int 4)))) (s5 (bnX C x gOne sOne log4 [])) false := et_is (et_test (ed_neI (ed_lenM (er_bn (ed_var (i := 5) (P := bnX C x gOne sOne log4 []) rfl)) ok4) ed_int)) (by decide)
      refine L4 _ _ _ rfl (hold5 rfl ⟨rfl, hb19'⟩) fun H20 e20 => iteF ?_
      have E2 : Ea (tCons (tTup (tCons (tTup (tCons (tC (.int 2)) tNil)) (tCons (tTup (tCons (tTup (tCons (tTup (tCons (tC (.int 0)) (tCons (tC (.int 0)) tNil))) tNil)) (tCons (tTup (tCons (tTup (tCons (tC (.int 0)) (tCons (tC (.int 1)) tNil))) tNil)) tNil))) tNil))) (tCons (tTup (tCons (tC (.int 1)) (tCons (tC (.int 1)) tNil))) tNil)) (List.replicate 11 none) [eRig gNo, eSh sNo] :=
        ea_cons (ed_tup (ds := [eRow [2], eFl [[(0, 0)], [(0, 1)]]]) (ea_cons (ed_tup (ds := [eN 2]) (ea_cons ed_int ea_nil) (show 1 ≤ sizeLine by decide)) (ea_cons (ed_tup (ds := [eLot [(0, 0)], eLot [(0, 1)]]) (ea_cons (ed_tup (ds := [ePr (0, 0)]) (ea_cons (ed_tup (ds := [eN 0, eN 0]) (ea_cons ed_int (ea_cons ed_int ea_nil)) (show 2 ≤ sizeLine by decide)) ea_nil) (show 1 ≤ sizeLine by decide))
          (ea_cons (ed_tup (ds := [ePr (0, 1)]) (ea_cons (ed_tup (ds := [eN 0, eN 1]) (ea_cons ed_int (ea_cons ed_int ea_nil)) (show 2 ≤ sizeLine by decide)) ea_nil) (show 1 ≤ sizeLine by decide)) ea_nil)) (show 2 ≤ sizeLine by decide)) ea_nil)) (show 2 ≤ sizeLine by decide)) (ea_cons (ed_tup (ds := [eN 1, eN 1]) (ea_cons ed_int (ea_cons ed_int ea_nil)) (show 2 ≤ sizeLine by decide)) ea_nil)
      refine u_asg (u_mk (E2 _ _ _ rfl (hold_none 11) fun vs H21 e21 dvs => ?_))
      obtain ⟨w1, w2, rfl, d1', d2'⟩ := two_of dvs
      refine mk_at d1' d2' gameNo shNo fun y H22 hy e22 hb22 => ?_
      have A1 : Ed (tLst (tCons (tMeth C "heads" (spB0 C fun g s past => .tuple ((headsLeft g s past).map eFl)) [] E0 (tVar 10) tNil) (tCons (tMeth C "left" (spB0 C fun g s past => .tuple ((leftOf g s past).map eFl)) [] E0 (tVar 10) tNil) (tCons (tCB (rLenM C (spB0 C fun _ _ past => .int (past.length : Nat))) (tCons (tVar 10) tNil)) tNil)))) [none, none, none, none, none, none, none, none, none, none, some (bnX C y gNo sNo [] [])] (.list eDueNo) :=
        ed_lst (ds := eDueNo) (ea_cons (ed_is (ed_m0 (val := fun g s past => .tuple ((headsLeft g s past).map eFl)) (er_bn (ed_var (i := 10) (P := bnX C y gNo sNo [] []) rfl)) okNo (fun _ _ _ _ => bn_heads)) (by show PyData.tuple ((headsLeft gNo sNo []).map eFl) = _; rw [head_no]; rfl)) (ea_cons (ed_is (ed_m0 (val := fun g s past => .tuple ((leftOf g s past).map eFl)) (er_bn (ed_var (i := 10) (P := bnX C y gNo sNo [] []) rfl)) okNo (fun _ _ _ _ => bn_left)) (by show PyData.tuple ((leftOf gNo sNo []).map eFl) = _; rw [left_no]; rfl)) (ea_cons (ed_lenM (er_bn (ed_var (i := 10) (P := bnX C y gNo sNo [] []) rfl)) okNo) ea_nil))) (show 3 ≤ sizeLine by decide)
      have A2 : Ed (tLst (tCons (tTup (tCons (tTup tNil) tNil)) (tCons (tTup (tCons (tTup tNil) tNil)) (tCons (tC (.int 0)) tNil)))) (List.replicate 11 none) (.list eDueNo) :=
        ed_lst (ds := eDueNo) (ea_cons (ed_tup (ds := [eFl []]) (ea_cons (ed_tup ea_nil (by decide)) ea_nil) (show 1 ≤ sizeLine by decide)) (ea_cons (ed_tup (ds := [eFl []]) (ea_cons (ed_tup ea_nil (by decide)) ea_nil) (show 1 ≤ sizeLine by decide)) (ea_cons ed_int ea_nil))) (show 3 ≤ sizeLine by decide)
      refine u_ret (u_call (u_cons (A1 _ _ _ rfl (h_no (h_no (h_no (h_no (h_no (h_no (h_no (h_no (h_no (h_no (h_ab (A := bnX C y gNo sNo [] []) ⟨rfl, hb22⟩ h_nil))))))))))) fun va H23 e23 da => u_cons (A2 _ _ _ rfl (hold_none 11) fun vb H24 e24 db => u_nil ⟨va, vb, .list eDueNo, rfl, Dq.mono e24 _ _ da, db, fine_dueNo, k _⟩))))
end Rn
end
section
set_option maxHeartbeats 4000000
/-! From the promise of the law's def, that asks for no repr under way, to the end of the law. -/
namespace Rn
open PySem PySem.Spec PyProof.Rows L2
section
variable {P : Program} {w : World} {K : PySem.W.Frag} {mg mb : Str → Option Value} {k : Nat} {fa a : Addr} {fd : FuncData} {x : Str} {sp : Sp} {s1 : Shared} {us : List Value} {ns : List Int}
/-- from a heap in which the script alone is told -/
theorem lead_at (kin : K.In s1.heap) (glob : s1.heap.Ns mainGlobals mg) (blt : s1.heap.Ns builtinsNs mb) (boot : ∀ y : Str, y ≠ "__name__" → mb y = bootBuiltins y) (free : s1.heap.NoLimit) (nog : s1.gens = #[])
    (there : s1.heap.get? a = some { cls := .type "list", data := .seq us.toArray }) (room : Room k callerA) (F : ∀ base : Heap, K.In base → base.Ns mainGlobals mg → FnG P w K mg base k fa fd [x] sp) (bind : ∀ (s : Shared) (u : Value), BindsTo s fd ⟨[u], []⟩ [(x, u)])
    {H : Hp} (only : ∀ b, H b = none ∨ ∃ o xs, H b = some (.frz o (.lst xs))) (told : sp [.ref a] H (fun v _ => v = .bl true) E0) (hok : HOk P w H s1.heap) (just : ∀ b, H b ≠ none → b = a) (own : H a ≠ none → K.lookup a = none) :
    codeAny (model P w) callerA (.call (.ref fa) ⟨[.ref a], []⟩) (fun r s2 => r = .ok (.ret (.bool true)) ∧ OldK s1.heap s2.heap ∧ s2.os = s1.os ∧ AllBare s2.gens) s1 := by
  have isA : ∀ {b : Addr} {u : HO}, H b = some u → b = a := fun {b u} z => just b (by rw [z]; exact fun y => nomatch y)
  have nodict : ∀ {b : Addr} {o : Obj} {rows : Array DictEntry} {n : Nat}, s1.heap.get? b = some o → o.data = .dict rows n → H b = none := by
    intro b o rows n at_ is_
    by_cases z : H b = none
    · exact z
    · cases just b z
      rw [there] at at_
      cases at_
      exact absurd (show Data.seq us.toArray _ = Data.dict rows n from is_) (by simp)
  have spaces : ∀ {b : Addr} {m : Str → Option Value}, s1.heap.Ns b m → (hidT s1.heap H).Ns b m := by
    rintro b m ⟨o, rows, n, at_, is_, rest⟩
    exact ⟨o, rows, n, hidT_get at_ (nodict at_ is_), is_, rest⟩
  have kin2 : K.In (hidT s1.heap H) := by
    intro b o at_
    refine hidT_get (kin b o at_) ?_
    by_cases z : H b = none
    · exact z
    · cases just b z
      rw [own z] at at_
      cases at_
  have globs := spaces glob
  have md : Mod K mg (hidT s1.heap H) := by
    obtain ⟨mc, l1, l2⟩ := free
    exact ⟨kin2, globs, ⟨mb, spaces blt, boot⟩, ⟨mc, spaces l1, l2⟩⟩
  have env : Env0 P w K mg (hidT s1.heap H) callerA [] s1 H := ⟨rfl, md, fun b o z => of_hidT z, Nat.le_of_eq (hidT_size _ _), trivial, fun b z => (by cases (show b ∈ ([] : List Addr) from z)), hok, .of_eq nog⟩
  refine codeAny_mono ((F _ kin2 globs).run callerA [] s1 H ⟨[.ref a], []⟩ [.ref a] [.ref a] _ _ room rfl env (bind s1 (.ref a)) (.cons rfl .nil) told) fun r s2 got => ?_
  match r, got with
  | .error _, got => exact got.elim
  | .ok .next, got => exact got.elim
  | .ok .brk, got => exact got.elim
  | .ok .cont, got => exact got.elim
  | .ok (.ret u), got =>
    obtain ⟨v, H2, sameOs, bare, un, hok2, rel, is_⟩ := got
    cases (show v = .bl true from is_)
    cases (show u = Value.bool true from rel)
    refine ⟨rfl, OldK.of_keep ?_, sameOs, bare⟩
    intro b o at_
    rcases only b with z | ⟨ob, xs, z⟩
    · exact un.keep b o at_ z (fun y => by cases (show b ∈ ([] : List Addr) from y)) (by simp)
    · have later := (hok2 b _ (un.frzs b ob _ z)).1
      have before := (hok b _ z).1
      rw [at_] at before
      cases before
      exact later
theorem lead (kin : K.In s1.heap) (glob : s1.heap.Ns mainGlobals mg) (blt : s1.heap.Ns builtinsNs mb) (boot : ∀ y : Str, y ≠ "__name__" → mb y = bootBuiltins y) (free : s1.heap.NoLimit) (nog : s1.gens = #[])
    (there : s1.heap.get? a = some { cls := .type "list", data := .seq us.toArray }) (areInts : IntsAre us ns) (few : ns.length ≤ sizeLine) (room : Room k callerA) (F : ∀ base : Heap, K.In base → base.Ns mainGlobals mg → FnG P w K mg base k fa fd [x] sp) (bind : ∀ (s : Shared) (u : Value), BindsTo s fd ⟨[u], []⟩ [(x, u)])
    (told : ∀ H : Hp, SqL K H a (ns.map V.int) → sp [.ref a] H (fun v _ => v = .bl true) E0) :
    codeAny (model P w) callerA (.call (.ref fa) ⟨[.ref a], []⟩) (fun r s2 => r = .ok (.ret (.bool true)) ∧ OldK s1.heap s2.heap ∧ s2.os = s1.os ∧ AllBare s2.gens) s1 := by
  have vals := vals_ints areInts
  have same := areInts.length
  cases z : K.lookup a with
  | some o =>
    have at_ := kin a o z
    rw [there] at at_
    cases at_
    exact lead_at kin glob blt boot free nog there room F bind (H := fun _ => none) (fun b => .inl rfl) (told _ (.inr ⟨_, us.toArray, _, z, rfl, rfl, rfl, by rw [List.size_toArray, same]; exact few, by simpa using vals⟩)) (fun b u y => by cases (show (none : Option HO) = some u from y)) (fun b y => (y rfl).elim) fun y => (y rfl).elim
  | none =>
    refine lead_at kin glob blt boot free nog there room F bind (H := upd (fun _ => none) a (.frz { cls := .type "list", data := .seq us.toArray } (.lst (ns.map V.int)))) (fun b => ?_) (told _ (.inl (.inr ⟨{ cls := .type "list", data := .seq us.toArray }, upd_same⟩))) (fun b u y => ?_) (fun b y => ?_) fun _ => z
    · by_cases e : b = a
      · subst e; exact .inr ⟨_, _, upd_same⟩
      · exact .inl (upd_ne e)
    · by_cases e : b = a
      · subst e
        rw [upd_same] at y
        cases y
        exact ⟨there, by rw [List.length_map]; exact few, us, _, vals, there⟩
      · rw [upd_ne e] at y
        cases y
    · by_cases e : b = a
      · exact e
      · exact (y (upd_ne e)).elim
end
theorem walkG {l : PySem.W.OpenLaw} {n k : Nat} {q : Program} {loose : List Str} {XP : (Str → Option Value) → Heap → Prop} {YP : World → Heap → Prop} {d : DefRec} {K : Params → PySem.W.Frag} {sp : PySem.W.Frag → Sp} {x : Str} (most : l.most = some n) (small : n ≤ sizeLine) (plain : d.params.defaults = []) (room : Room k callerA) (kin : ∀ (w : World) (h : Heap), YP w h → (K w.params).In h)
    (F : ∀ (w : World) (mg : Str → Option Value) (fa : Addr) (h : Heap), (K w.params).In h → h.Ns mainGlobals mg → mg d.name = some (.ref fa) → ∃ fd : FuncData, (∀ (s : Shared) (u : Value), BindsTo s fd ⟨[u], []⟩ [(x, u)]) ∧ ∀ base : Heap, (K w.params).In base → base.Ns mainGlobals mg → FnG l.prog w (K w.params) mg base k fa fd [x] (sp (K w.params)))
    (told : ∀ (K : PySem.W.Frag) (H : Hp) (a : Addr) (ns : List Int), ns.length ≤ n → SqL K H a (ns.map V.int) → sp K [.ref a] H (fun v _ => v = .bl true) E0) : PySem.W.WalkO q loose XP YP l.row.toRowW d [] (fun f vs => PySem.call f vs) := by
  refine Att.attach_call most plain ?_
  intro w s0 s1 mg mb fa o pm cd doc a us ns G Y at_ is_ code name there areInts few nog
  obtain ⟨fd, bind, Fb⟩ := F w mg fa _ (kin w _ Y) G.T.g name
  exact lead (kin w _ Y) G.T.g G.T.b G.T.builtins G.T.nolimit nog there areInts (Nat.le_trans few small) room Fb bind fun H seq => told _ H a ns few seq
end Rn
end
section
set_option maxHeartbeats 4000000
/-! All together. -/
namespace Rn
open PySem L2 PyProof.Rows PySem.W
variable {P : Program} {w : World} {K : PySem.W.Frag} {mg : Str → Option Value} {base : Heap} {C : Addr}
/-- what stands behind the top -/
structure Tops (K : PySem.W.Frag) (mg : Str → Option Value) (C : Addr) : Prop where
  tb : Tb mg
  bx : Bx K mg C
  d_is_whole : Dn K mg "is_whole" sWhole ["value", "least", "most"]
  d_does_meet : Dn K mg "does_meet" sMeet ["row", "lot"]
  d_are_rising : Dn K mg "are_rising" sRising ["row"]
  d_is_setting : Dn K mg "is_setting" sSet ["values", "thing"]
  d_is_lot_of : Dn K mg "is_lot_of" sLotOf ["values", "thing"]
  d_wrong_in_barred : Dn K mg "wrong_in_barred" sBarred ["values", "thing"]
  d_need_rig : Dn K mg "need_rig" sNeedRig ["rig"]
  d_is_row : Dn K mg "is_row" sIsRow ["rig", "value"]
  d_is_let_of : Dn K mg "is_let_of" sIsLet ["rig", "row"]
  d_rows_of : Dn K mg "rows_of" sRows ["rig"]
  d_lots_on : Dn K mg "lots_on" sLotsOn ["values", "knobs"]
  d_knobs_by : Dn K mg "knobs_by" sKnobs ["many", "size"]
  d_does_fail : Dn K mg "does_fail" sFail ["row", "faults"]
  d_outcomes_of : Dn K mg "outcomes_of" sOutcomes ["rows", "faults"]
  d_does_fit : Dn K mg "does_fit" sFit ["faults", "log"]
  d_need_row : Dn K mg "need_row" sNeedRow ["rig", "row"]
  d_need_shape : Dn K mg "need_shape" sNeedShape ["rig", "shape"]
  d_lots_of : Dn K mg "lots_of" sLots ["rig", "size"]
  d_sets_of : Dn K mg "sets_of" sSets ["lots", "most"]
  d_faults_of : Dn K mg "faults_of" sFaults ["rig", "shape"]
  d_signs_of : Dn K mg "signs_of" sSigns ["rows", "faults"]
  d_left_of : Dn K mg "left_of" sLeft ["rig", "shape", "log"]
  d_heads_left : Dn K mg "heads_left" sHeads ["rig", "shape", "log"]
  d_law_meets : Dn K mg "_law_meets" sLMeets ["row", "lot"]
  d_law_rows : Dn K mg "_law_rows" sLRows ["rig_so"]
  d_law_parts : Dn K mg "_law_parts" sParts ["row", "size"]
  d_law_fails : Dn K mg "_law_fails" sLFails ["row", "some"]
  d_law_sign : Dn K mg "_law_sign" sLSign ["rows", "some"]
  d_law_fit : Dn K mg "_law_fit" sLFit ["every", "log_so"]
  d_law_lots : Dn K mg "_law_lots" sLLots ["rig_so", "size"]
  d_law_all : Dn K mg "_law_all" sLAll ["rig_so", "shape_so"]
  d_law_heads : Dn K mg "_law_heads" sLHeads ["rows", "every", "log_so"]
  d_law_mixed : Dn K mg "_law_mixed" sMixed ["cell", "n"]
  d_law_folded : Dn K mg "_law_folded" sFolded ["script"]
  d_law_draw : Dn K mg "_law_draw" sDraw ["m", "limit"]
  d_law_of : Dn K mg "_law_of" sOf ["m", "some"]
  d_law_begun : Dn K mg "_law_begun" sBegun ["script"]
  d_law_lot : Dn K mg "_law_lot" sLot ["m", "sizes", "size"]
  d_law_rig : Dn K mg "_law_rig" sRig ["m", "most"]
  d_law_good_rig : Dn K mg "_law_good_rig" sGood ["m", "most"]
  d_law_shape : Dn K mg "_law_shape" sShape ["m", "rig_so"]
  d_law_begin_bench : Dn K mg "_law_begin_bench" sBegin ["rig_so", "shape_so"]
  d_law_gone_back : Dn K mg "_law_gone_back" sGoBack ["own"]
  d_law_gone_on : Dn K mg "_law_gone_on" sGoOn ["own"]
  d_law_run_one : Dn K mg "_law_run_one" sRunOne ["m", "own"]
  d_law_like : Dn K mg "_law_like" sLike ["answer", "due"]
  d_law_stands : Dn K mg "_law_stands" sStands ["one", "own"]
  d_law_turn : Dn K mg "_law_turn" sTurn ["m", "one", "own"]
  d_law_led : Dn K mg "_law_led" sLed ["m", "one", "own", "many"]
  m_rig : Dp K C "rig" "Bench.rig" mRig
  m_shape : Dp K C "shape" "Bench.shape" mShape
  m_log : Dp K C "log" "Bench.log" mLog
  m_len : Dm K C "__len__" "Bench.__len__" mLen ["self"]
  m_left : Dm K C "left" "Bench.left" mLeft ["self"]
  m_heads : Dm K C "heads" "Bench.heads" mHeads ["self"]
  m_run : Dm K C "run" "Bench.run" mRun ["self", "row", "outcome"]
  m_undo : Dm K C "undo" "Bench.undo" mUndo ["self"]
  m_redo : Dm K C "redo" "Bench.redo" mRedo ["self"]
  make : ∃ (f : Addr) (fd : FuncData), Fun K "__init__" "Bench.__init__" mInit f fd ∧ Mk K C f ∧ L2.Binds K fd ["self", "rig", "shape"] []
theorem law_of_top {f : Addr} {fd : FuncData} (S : Tops K mg C) (FF : Fun K "law" "law" sLawT f fd) : FnG P w K mg base 12 f fd ["script"] (spLaw K) := by
  have T := S.tb
  have B := S.bx
  have c_is_whole := ok_whole (P := P) (w := w) (base := base) T S.d_is_whole 
  have c_does_meet := ok_meet (P := P) (w := w) (base := base) T S.d_does_meet 
  have c_are_rising := ok_rising (P := P) (w := w) (base := base) T S.d_are_rising 
  have c_is_setting := ok_set (P := P) (w := w) (base := base) T S.d_is_setting c_is_whole
  have c_is_lot_of := ok_lotOf (P := P) (w := w) (base := base) T S.d_is_lot_of c_is_setting c_are_rising
  have c_wrong_in_barred := ok_barred (P := P) (w := w) (base := base) T S.d_wrong_in_barred c_is_lot_of
  have c_need_rig := ok_needRig (P := P) (w := w) (base := base) T S.d_need_rig c_wrong_in_barred c_is_whole
  have c_is_row := ok_isRow (P := P) (w := w) (base := base) T S.d_is_row c_is_whole
  have c_is_let_of := ok_isLet (P := P) (w := w) (base := base) T S.d_is_let_of c_does_meet
  have c_rows_of := ok_rows (P := P) (w := w) (base := base) T S.d_rows_of c_is_let_of
  have c_lots_on := ok_lotsOn (P := P) (w := w) (base := base) T S.d_lots_on 
  have c_knobs_by := ok_knobs (P := P) (w := w) (base := base) T S.d_knobs_by c_are_rising
  have c_does_fail := ok_fail (P := P) (w := w) (base := base) T S.d_does_fail c_does_meet
  have c_outcomes_of := ok_outcomes (P := P) (w := w) (base := base) T S.d_outcomes_of c_does_fail
  have c_does_fit := ok_fit (P := P) (w := w) (base := base) T S.d_does_fit c_does_fail
  have c_need_row := ok_needRow (P := P) (w := w) (base := base) T S.d_need_row c_is_row c_is_let_of
  have c_need_shape := ok_needShape (P := P) (w := w) (base := base) T S.d_need_shape c_need_rig c_is_whole
  have c_lots_of := ok_lots (P := P) (w := w) (base := base) T S.d_lots_of c_rows_of c_knobs_by c_lots_on
  have c_sets_of := ok_sets (P := P) (w := w) (base := base) T S.d_sets_of 
  have c_faults_of := ok_faults (P := P) (w := w) (base := base) T S.d_faults_of c_lots_of c_sets_of
  have c_signs_of := ok_signs (P := P) (w := w) (base := base) T S.d_signs_of c_outcomes_of
  have c_left_of := ok_left (P := P) (w := w) (base := base) T S.d_left_of c_faults_of c_does_fit
  have c_heads_left := ok_heads (P := P) (w := w) (base := base) T S.d_heads_left c_rows_of c_left_of c_signs_of
  have b_len := ok_mLen (P := P) (w := w) (base := base) T B S.m_len
  have b_heads := ok_mHeads (P := P) (w := w) (base := base) T B S.m_heads c_heads_left
  have M : Ms P w K mg base C := ⟨B, ok_mRig B S.m_rig, ok_mShape B S.m_shape, ok_mLog B S.m_log, b_len, ok_mLeft T B S.m_left c_left_of, b_heads, ok_mRun T B S.m_run c_need_row b_len b_heads, ok_mUndo T B S.m_undo, ok_mRedo T B S.m_redo⟩
  have mb : MkB P w K mg base C := by
    obtain ⟨fi, fdi, Fi, mk, bi⟩ := S.make
    exact ⟨fi, fdi, ok_mInit B Fi c_need_rig c_need_shape c_left_of, mk, bi⟩
  have c_law_meets := ok_lMeets (P := P) (w := w) (base := base) T S.d_law_meets 
  have c_law_rows := ok_lRows (P := P) (w := w) (base := base) T S.d_law_rows c_law_meets
  have c_law_parts := ok_parts (P := P) (w := w) (base := base) T S.d_law_parts 
  have c_law_fails := ok_lFails (P := P) (w := w) (base := base) T S.d_law_fails c_law_meets
  have c_law_sign := ok_lSign (P := P) (w := w) (base := base) T S.d_law_sign c_law_fails
  have c_law_fit := ok_lFit (P := P) (w := w) (base := base) T S.d_law_fit c_law_fails
  have c_law_lots := ok_lLots (P := P) (w := w) (base := base) T S.d_law_lots c_law_rows c_law_parts
  have c_law_all := ok_lAll (P := P) (w := w) (base := base) T S.d_law_all c_law_lots
  have c_law_heads := ok_lHeads (P := P) (w := w) (base := base) T S.d_law_heads c_law_fit c_law_sign
  have c_law_mixed := ok_mixed (P := P) (w := w) (base := base) T S.d_law_mixed 
  have c_law_folded := ok_folded (P := P) (w := w) (base := base) T S.d_law_folded 
  have c_law_draw := ok_draw (P := P) (w := w) (base := base) T S.d_law_draw c_law_mixed
  have c_law_of := ok_of (P := P) (w := w) (base := base) T S.d_law_of c_law_draw
  have c_law_begun := ok_begun (P := P) (w := w) (base := base) T S.d_law_begun c_law_folded
  have c_law_lot := ok_lot (P := P) (w := w) (base := base) T S.d_law_lot c_law_of c_law_draw
  have c_law_rig := ok_rig (P := P) (w := w) (base := base) T S.d_law_rig c_law_draw c_law_lot
  have c_law_good_rig := ok_good (P := P) (w := w) (base := base) T S.d_law_good_rig c_law_rig c_law_rows
  have c_law_shape := ok_shape (P := P) (w := w) (base := base) T S.d_law_shape c_law_draw c_law_lots
  have c_law_begin_bench := ok_begin (P := P) (w := w) (base := base) T S.d_law_begin_bench c_law_rows c_law_all
  have c_law_gone_back := ok_goBack (P := P) (w := w) (base := base) T S.d_law_gone_back 
  have c_law_gone_on := ok_goOn (P := P) (w := w) (base := base) T S.d_law_gone_on 
  have c_law_run_one := ok_runOne (P := P) (w := w) (base := base) T S.d_law_run_one c_law_of c_law_fit c_law_draw c_law_fails c_law_heads
  have c_law_like := ok_like (P := P) (w := w) (base := base) T S.d_law_like 
  have c_law_stands := ok_stands (P := P) (w := w) (base := base) T M S.d_law_stands c_law_fit c_law_heads c_law_like
  have c_law_turn := ok_turn (P := P) (w := w) (base := base) T M S.d_law_turn c_law_draw c_law_gone_back c_law_gone_on c_law_run_one c_law_like
  have c_law_led := ok_led (C := C) (P := P) (w := w) (base := base) T S.d_law_led c_law_turn c_law_stands
  exact fn_law T M mb FF c_law_begun c_law_good_rig c_law_shape c_law_begin_bench c_law_stands c_law_led c_law_draw c_law_like
section
variable {h : Heap} {x qual : Str} {st : Stmt} {ps : List Str} {f p : Addr} {od an : Option Addr} {sl : Array (Option Value)} {oc kV dc pm cd ct : Value}
theorem dn_mk (X : K.In h) (G : h.Ns mainGlobals mg) (b : ∀ (kV doc pm : Value) (an : Option Addr) (cdv ct : Value) (us : List Value), us.length = ps.length → bindArgs (PySem.W.fnOf x x (defArgs st) (defBody st) (defScope st) .none kV doc pm an cdv ct) ⟨us, []⟩ = pure (ps.zip us))
    (a : PySem.W.nsIn K mainGlobals x = some (some (.ref f))) (l : K.lookup f = some ⟨oc, od, .func (PySem.W.fnOf x x (defArgs st) (defBody st) (defScope st) .none kV dc pm an cd ct), sl⟩) (c : PySem.W.codeIn K cd x = true) (k : PySem.W.keepIn K (.ref f) = true) : Dn K mg x st ps :=
  ⟨f, _, fun_mk l c k, (fun_mk l c k).binds b, PySem.W.mg_of X G a⟩
theorem dm_mk (b : ∀ (kV doc pm : Value) (an : Option Addr) (cdv ct : Value) (us : List Value), us.length = ps.length → bindArgs (PySem.W.fnOf x qual (defArgs st) (defBody st) (defScope st) .none kV doc pm an cdv ct) ⟨us, []⟩ = pure (ps.zip us))
    (a : PySem.W.findIn K (.ref C) x = some (some (.ref f))) (i : PySem.W.isFn K (.ref f) = true) (l : K.lookup f = some ⟨oc, od, .func (PySem.W.fnOf x qual (defArgs st) (defBody st) (defScope st) .none kV dc pm an cd ct), sl⟩) (c : PySem.W.codeIn K cd qual = true) (k : PySem.W.keepIn K (.ref f) = true) : Dm K C x qual st ps :=
  ⟨f, _, fun_mk l c k, (fun_mk l c k).binds b, ⟨a, i, k⟩⟩
theorem dp_mk {rest : List Value} (b : ∀ (kV doc pm : Value) (an : Option Addr) (cdv ct : Value) (us : List Value), us.length = (["self"] : List Str).length → bindArgs (PySem.W.fnOf x qual (defArgs st) (defBody st) (defScope st) .none kV doc pm an cdv ct) ⟨us, []⟩ = pure ((["self"] : List Str).zip us))
    (a : PySem.W.findIn K (.ref C) x = some (some (.ref p))) (g : PySem.W.specialIn K (.ref p) "__get__" = some (some (.builtin "property.__get__"))) (t : PySem.W.takesIn K (.ref p) = some true) (r : PySem.W.recIn K p "property" = some (.ref f :: rest))
    (l : K.lookup f = some ⟨oc, od, .func (PySem.W.fnOf x qual (defArgs st) (defBody st) (defScope st) .none kV dc pm an cd ct), sl⟩) (c : PySem.W.codeIn K cd qual = true) (k : PySem.W.keepIn K (.ref f) = true) : Dp K C x qual st :=
  ⟨p, f, _, fun_mk l c k, (fun_mk l c k).binds b, ⟨a, g, t, rest, r⟩⟩
end
theorem all_mk {l : PySem.W.OpenLaw} {w : World} {K : PySem.W.Frag} {h : Heap} {mg : Str → Option Value} {fa C : Addr} (X : K.In h) (G : h.Ns mainGlobals mg) (hfa : mg "law" = some (.ref fa))
    {f1 : Addr} {od1 an1 : Option Addr} {sl1 : Array (Option Value)} {oc1 kV1 dc1 pm1 cd1 ct1 : Value} {f2 : Addr} {od2 an2 : Option Addr} {sl2 : Array (Option Value)} {oc2 kV2 dc2 pm2 cd2 ct2 : Value} {f3 : Addr} {od3 an3 : Option Addr} {sl3 : Array (Option Value)} {oc3 kV3 dc3 pm3 cd3 ct3 : Value} {f4 : Addr} {od4 an4 : Option Addr} {sl4 : Array (Option Value)} {oc4 kV4 dc4 pm4 cd4 ct4 : Value} {f5 : Addr} {od5 an5 : Option Addr} {sl5 : Array (Option Value)} {oc5 kV5 dc5 pm5 cd5 ct5 : Value} {f6 : Addr} {od6 an6 : Option Addr} {sl6 : Array (Option Value)} {oc6 kV6 dc6 pm6 cd6 ct6 : Value} {f7 : Addr} {od7 an7 : Option Addr} {sl7 : Array (Option Value)} {oc7 kV7 dc7 pm7 cd7 ct7 : Value} {f8 : Addr} {od8 an8 : Option Addr} {sl8 : Array (Option Value)} {oc8 kV8 dc8 pm8 cd8 ct8 : Value} {f9 : Addr} {od9 an9 : Option Addr} {sl9 : Array (Option Value)} {oc9 kV9 dc9 pm9 cd9 ct9 : Value} {f10 : Addr} {od10 an10 : Option Addr} {sl10 : Array (Option Value)} {oc10 kV10 dc10 pm10 cd10 ct10 : Value} {f11 : Addr} {od11 an11 : Option Addr} {sl11 : Array (Option Value)} {oc11 kV11 dc11 pm11 cd11 ct11 : Value} {f12 : Addr} {od12 an12 : Option Addr} {sl12 : Array (Option Value)} {oc12 kV12 dc12 pm12 cd12 ct12 : Value} {f13 : Addr} {od13 an13 : Option Addr} {sl13 : Array (Option Value)} {oc13 kV13 dc13 pm13 cd13 ct13 : Value} {f14 : Addr} {od14 an14 : Option Addr} {sl14 : Array (Option Value)} {oc14 kV14 dc14 pm14 cd14 ct14 : Value} {f15 : Addr} {od15 an15 : Option Addr} {sl15 : Array (Option Value)} {oc15 kV15 dc15 pm15 cd15 ct15 : Value} {f16 : Addr} {od16 an16 : Option Addr} {sl16 : Array (Option Value)} {oc16 kV16 dc16 pm16 cd16 ct16 : Value} {f17 : Addr} {od17 an17 : Option Addr} {sl17 : Array (Option Value)} {oc17 kV17 dc17 pm17 cd17 ct17 : Value} {f18 : Addr} {od18 an18 : Option Addr} {sl18 : Array (Option Value)} {oc18 kV18 dc18 pm18 cd18 ct18 : Value} {f19 : Addr} {od19 an19 : Option Addr} {sl19 : Array (Option Value)} {oc19 kV19 dc19 pm19 cd19 ct19 : Value} {f20 : Addr} {od20 an20 : Option Addr} {sl20 : Array (Option Value)} {oc20 kV20 dc20 pm20 cd20 ct20 : Value} {f21 : Addr} {od21 an21 : Option Addr} {sl21 : Array (Option Value)} {oc21 kV21 dc21 pm21 cd21 ct21 : Value} {f22 : Addr} {od22 an22 : Option Addr} {sl22 : Array (Option Value)} {oc22 kV22 dc22 pm22 cd22 ct22 : Value} {f23 : Addr} {od23 an23 : Option Addr} {sl23 : Array (Option Value)} {oc23 kV23 dc23 pm23 cd23 ct23 : Value} {f24 : Addr} {od24 an24 : Option Addr} {sl24 : Array (Option Value)} {oc24 kV24 dc24 pm24 cd24 ct24 : Value} {f25 : Addr} {od25 an25 : Option Addr} {sl25 : Array (Option Value)} {oc25 kV25 dc25 pm25 cd25 ct25 : Value} {f26 : Addr} {od26 an26 : Option Addr} {sl26 : Array (Option Value)} {oc26 kV26 dc26 pm26 cd26 ct26 : Value} {f27 : Addr} {od27 an27 : Option Addr} {sl27 : Array (Option Value)} {oc27 kV27 dc27 pm27 cd27 ct27 : Value} {f28 : Addr} {od28 an28 : Option Addr} {sl28 : Array (Option Value)} {oc28 kV28 dc28 pm28 cd28 ct28 : Value} {f29 : Addr} {od29 an29 : Option Addr} {sl29 : Array (Option Value)} {oc29 kV29 dc29 pm29 cd29 ct29 : Value} {f30 : Addr} {od30 an30 : Option Addr} {sl30 : Array (Option Value)} {oc30 kV30 dc30 pm30 cd30 ct30 : Value} {f31 : Addr} {od31 an31 : Option Addr} {sl31 : Array (Option Value)} {oc31 kV31 dc31 pm31 cd31 ct31 : Value} {f32 : Addr} {od32 an32 : Option Addr} {sl32 : Array (Option Value)} {oc32 kV32 dc32 pm32 cd32 ct32 : Value} {f33 : Addr} {od33 an33 : Option Addr} {sl33 : Array (Option Value)} {oc33 kV33 dc33 pm33 cd33 ct33 : Value} {f34 : Addr} {od34 an34 : Option Addr} {sl34 : Array (Option Value)} {oc34 kV34 dc34 pm34 cd34 ct34 : Value} {f35 : Addr} {od35 an35 : Option Addr} {sl35 : Array (Option Value)} {oc35 kV35 dc35 pm35 cd35 ct35 : Value} {f36 : Addr} {od36 an36 : Option Addr} {sl36 : Array (Option Value)} {oc36 kV36 dc36 pm36 cd36 ct36 : Value} {f37 : Addr} {od37 an37 : Option Addr} {sl37 : Array (Option Value)} {oc37 kV37 dc37 pm37 cd37 ct37 : Value} {f38 : Addr} {od38 an38 : Option Addr} {sl38 : Array (Option Value)} {oc38 kV38 dc38 pm38 cd38 ct38 : Value} {f39 : Addr} {od39 an39 : Option Addr} {sl39 : Array (Option Value)} {oc39 kV39 dc39 pm39 cd39 ct39 : Value} {f40 : Addr} {od40 an40 : Option Addr} {sl40 : Array (Option Value)} {oc40 kV40 dc40 pm40 cd40 ct40 : Value} {f41 : Addr} {od41 an41 : Option Addr} {sl41 : Array (Option Value)} {oc41 kV41 dc41 pm41 cd41 ct41 : Value} {f42 : Addr} {od42 an42 : Option Addr} {sl42 : Array (Option Value)} {oc42 kV42 dc42 pm42 cd42 ct42 : Value} {f43 : Addr} {od43 an43 : Option Addr} {sl43 : Array (Option Value)} {oc43 kV43 dc43 pm43 cd43 ct43 : Value} {f44 : Addr} {od44 an44 : Option Addr} {sl44 : Array (Option Value)} {oc44 kV44 dc44 pm44 cd44 ct44 : Value} {f45 : Addr} {od45 an45 : Option Addr} {sl45 : Array (Option Value)} {oc45 kV45 dc45 pm45 cd45 ct45 : Value} {f46 : Addr} {od46 an46 : Option Addr} {sl46 : Array (Option Value)} {oc46 kV46 dc46 pm46 cd46 ct46 : Value} {f47 : Addr} {od47 an47 : Option Addr} {sl47 : Array (Option Value)} {oc47 kV47 dc47 pm47 cd47 ct47 : Value} {f48 : Addr} {od48 an48 : Option Addr} {sl48 : Array (Option Value)} {oc48 kV48 dc48 pm48 cd48 ct48 : Value} {f49 : Addr} {od49 an49 : Option Addr} {sl49 : Array (Option Value)} {oc49 kV49 dc49 pm49 cd49 ct49 : Value} {f50 : Addr} {od50 an50 : Option Addr} {sl50 : Array (Option Value)} {oc50 kV50 dc50 pm50 cd50 ct50 : Value} {p50 : Addr} {r50 : List Value} {f51 : Addr} {od51 an51 : Option Addr} {sl51 : Array (Option Value)} {oc51 kV51 dc51 pm51 cd51 ct51 : Value} {p51 : Addr} {r51 : List Value} {f52 : Addr} {od52 an52 : Option Addr} {sl52 : Array (Option Value)} {oc52 kV52 dc52 pm52 cd52 ct52 : Value} {p52 : Addr} {r52 : List Value} {f53 : Addr} {od53 an53 : Option Addr} {sl53 : Array (Option Value)} {oc53 kV53 dc53 pm53 cd53 ct53 : Value} {f54 : Addr} {od54 an54 : Option Addr} {sl54 : Array (Option Value)} {oc54 kV54 dc54 pm54 cd54 ct54 : Value} {f55 : Addr} {od55 an55 : Option Addr} {sl55 : Array (Option Value)} {oc55 kV55 dc55 pm55 cd55 ct55 : Value} {f56 : Addr} {od56 an56 : Option Addr} {sl56 : Array (Option Value)} {oc56 kV56 dc56 pm56 cd56 ct56 : Value} {f57 : Addr} {od57 an57 : Option Addr} {sl57 : Array (Option Value)} {oc57 kV57 dc57 pm57 cd57 ct57 : Value} {f58 : Addr} {od58 an58 : Option Addr} {sl58 : Array (Option Value)} {oc58 kV58 dc58 pm58 cd58 ct58 : Value} {f59 : Addr} {od59 an59 : Option Addr} {sl59 : Array (Option Value)} {oc59 kV59 dc59 pm59 cd59 ct59 : Value} {f60 : Addr} {od60 an60 : Option Addr} {sl60 : Array (Option Value)} {oc60 kV60 dc60 pm60 cd60 ct60 : Value} {t0 : Tok} {t1 : Tok} {t2 : Tok} {t3 : Tok} {t4 : Tok} {t5 : Tok} {t6 : Tok} {t7 : Tok}
    (aC : PySem.W.nsIn K mainGlobals "Bench" = some (some (.ref C)))
    (a1 : PySem.W.nsIn K mainGlobals "is_whole" = some (some (.ref f1)))
    (l1 : K.lookup f1 = some ⟨oc1, od1, .func (PySem.W.fnOf "is_whole" "is_whole" (defArgs sWhole) (defBody sWhole) (defScope sWhole) .none kV1 dc1 pm1 an1 cd1 ct1), sl1⟩)
    (c1 : PySem.W.codeIn K cd1 "is_whole" = true)
    (k1 : PySem.W.keepIn K (.ref f1) = true)
    (a2 : PySem.W.nsIn K mainGlobals "does_meet" = some (some (.ref f2)))
    (l2 : K.lookup f2 = some ⟨oc2, od2, .func (PySem.W.fnOf "does_meet" "does_meet" (defArgs sMeet) (defBody sMeet) (defScope sMeet) .none kV2 dc2 pm2 an2 cd2 ct2), sl2⟩)
    (c2 : PySem.W.codeIn K cd2 "does_meet" = true)
    (k2 : PySem.W.keepIn K (.ref f2) = true)
    (a3 : PySem.W.nsIn K mainGlobals "are_rising" = some (some (.ref f3)))
    (l3 : K.lookup f3 = some ⟨oc3, od3, .func (PySem.W.fnOf "are_rising" "are_rising" (defArgs sRising) (defBody sRising) (defScope sRising) .none kV3 dc3 pm3 an3 cd3 ct3), sl3⟩)
    (c3 : PySem.W.codeIn K cd3 "are_rising" = true)
    (k3 : PySem.W.keepIn K (.ref f3) = true)
    (a4 : PySem.W.nsIn K mainGlobals "is_setting" = some (some (.ref f4)))
    (l4 : K.lookup f4 = some ⟨oc4, od4, .func (PySem.W.fnOf "is_setting" "is_setting" (defArgs sSet) (defBody sSet) (defScope sSet) .none kV4 dc4 pm4 an4 cd4 ct4), sl4⟩)
    (c4 : PySem.W.codeIn K cd4 "is_setting" = true)
    (k4 : PySem.W.keepIn K (.ref f4) = true)
    (a5 : PySem.W.nsIn K mainGlobals "is_lot_of" = some (some (.ref f5)))
    (l5 : K.lookup f5 = some ⟨oc5, od5, .func (PySem.W.fnOf "is_lot_of" "is_lot_of" (defArgs sLotOf) (defBody sLotOf) (defScope sLotOf) .none kV5 dc5 pm5 an5 cd5 ct5), sl5⟩)
    (c5 : PySem.W.codeIn K cd5 "is_lot_of" = true)
    (k5 : PySem.W.keepIn K (.ref f5) = true)
    (a6 : PySem.W.nsIn K mainGlobals "wrong_in_barred" = some (some (.ref f6)))
    (l6 : K.lookup f6 = some ⟨oc6, od6, .func (PySem.W.fnOf "wrong_in_barred" "wrong_in_barred" (defArgs sBarred) (defBody sBarred) (defScope sBarred) .none kV6 dc6 pm6 an6 cd6 ct6), sl6⟩)
    (c6 : PySem.W.codeIn K cd6 "wrong_in_barred" = true)
    (k6 : PySem.W.keepIn K (.ref f6) = true)
    (a7 : PySem.W.nsIn K mainGlobals "need_rig" = some (some (.ref f7)))
    (l7 : K.lookup f7 = some ⟨oc7, od7, .func (PySem.W.fnOf "need_rig" "need_rig" (defArgs sNeedRig) (defBody sNeedRig) (defScope sNeedRig) .none kV7 dc7 pm7 an7 cd7 ct7), sl7⟩)
    (c7 : PySem.W.codeIn K cd7 "need_rig" = true)
    (k7 : PySem.W.keepIn K (.ref f7) = true)
    (a8 : PySem.W.nsIn K mainGlobals "is_row" = some (some (.ref f8)))
    (l8 : K.lookup f8 = some ⟨oc8, od8, .func (PySem.W.fnOf "is_row" "is_row" (defArgs sIsRow) (defBody sIsRow) (defScope sIsRow) .none kV8 dc8 pm8 an8 cd8 ct8), sl8⟩)
    (c8 : PySem.W.codeIn K cd8 "is_row" = true)
    (k8 : PySem.W.keepIn K (.ref f8) = true)
    (a9 : PySem.W.nsIn K mainGlobals "is_let_of" = some (some (.ref f9)))
    (l9 : K.lookup f9 = some ⟨oc9, od9, .func (PySem.W.fnOf "is_let_of" "is_let_of" (defArgs sIsLet) (defBody sIsLet) (defScope sIsLet) .none kV9 dc9 pm9 an9 cd9 ct9), sl9⟩)
    (c9 : PySem.W.codeIn K cd9 "is_let_of" = true)
    (k9 : PySem.W.keepIn K (.ref f9) = true)
    (a10 : PySem.W.nsIn K mainGlobals "rows_of" = some (some (.ref f10)))
    (l10 : K.lookup f10 = some ⟨oc10, od10, .func (PySem.W.fnOf "rows_of" "rows_of" (defArgs sRows) (defBody sRows) (defScope sRows) .none kV10 dc10 pm10 an10 cd10 ct10), sl10⟩)
    (c10 : PySem.W.codeIn K cd10 "rows_of" = true)
    (k10 : PySem.W.keepIn K (.ref f10) = true)
    (a11 : PySem.W.nsIn K mainGlobals "lots_on" = some (some (.ref f11)))
    (l11 : K.lookup f11 = some ⟨oc11, od11, .func (PySem.W.fnOf "lots_on" "lots_on" (defArgs sLotsOn) (defBody sLotsOn) (defScope sLotsOn) .none kV11 dc11 pm11 an11 cd11 ct11), sl11⟩)
    (c11 : PySem.W.codeIn K cd11 "lots_on" = true)
    (k11 : PySem.W.keepIn K (.ref f11) = true)
    (a12 : PySem.W.nsIn K mainGlobals "knobs_by" = some (some (.ref f12)))
    (l12 : K.lookup f12 = some ⟨oc12, od12, .func (PySem.W.fnOf "knobs_by" "knobs_by" (defArgs sKnobs) (defBody sKnobs) (defScope sKnobs) .none kV12 dc12 pm12 an12 cd12 ct12), sl12⟩)
    (c12 : PySem.W.codeIn K cd12 "knobs_by" = true)
    (k12 : PySem.W.keepIn K (.ref f12) = true)
    (a13 : PySem.W.nsIn K mainGlobals "does_fail" = some (some (.ref f13)))
    (l13 : K.lookup f13 = some ⟨oc13, od13, .func (PySem.W.fnOf "does_fail" "does_fail" (defArgs sFail) (defBody sFail) (defScope sFail) .none kV13 dc13 pm13 an13 cd13 ct13), sl13⟩)
    (c13 : PySem.W.codeIn K cd13 "does_fail" = true)
    (k13 : PySem.W.keepIn K (.ref f13) = true)
    (a14 : PySem.W.nsIn K mainGlobals "outcomes_of" = some (some (.ref f14)))
    (l14 : K.lookup f14 = some ⟨oc14, od14, .func (PySem.W.fnOf "outcomes_of" "outcomes_of" (defArgs sOutcomes) (defBody sOutcomes) (defScope sOutcomes) .none kV14 dc14 pm14 an14 cd14 ct14), sl14⟩)
    (c14 : PySem.W.codeIn K cd14 "outcomes_of" = true)
    (k14 : PySem.W.keepIn K (.ref f14) = true)
    (a15 : PySem.W.nsIn K mainGlobals "does_fit" = some (some (.ref f15)))
    (l15 : K.lookup f15 = some ⟨oc15, od15, .func (PySem.W.fnOf "does_fit" "does_fit" (defArgs sFit) (defBody sFit) (defScope sFit) .none kV15 dc15 pm15 an15 cd15 ct15), sl15⟩)
    (c15 : PySem.W.codeIn K cd15 "does_fit" = true)
    (k15 : PySem.W.keepIn K (.ref f15) = true)
    (a16 : PySem.W.nsIn K mainGlobals "need_row" = some (some (.ref f16)))
    (l16 : K.lookup f16 = some ⟨oc16, od16, .func (PySem.W.fnOf "need_row" "need_row" (defArgs sNeedRow) (defBody sNeedRow) (defScope sNeedRow) .none kV16 dc16 pm16 an16 cd16 ct16), sl16⟩)
    (c16 : PySem.W.codeIn K cd16 "need_row" = true)
    (k16 : PySem.W.keepIn K (.ref f16) = true)
    (a17 : PySem.W.nsIn K mainGlobals "need_shape" = some (some (.ref f17)))
    (l17 : K.lookup f17 = some ⟨oc17, od17, .func (PySem.W.fnOf "need_shape" "need_shape" (defArgs sNeedShape) (defBody sNeedShape) (defScope sNeedShape) .none kV17 dc17 pm17 an17 cd17 ct17), sl17⟩)
    (c17 : PySem.W.codeIn K cd17 "need_shape" = true)
    (k17 : PySem.W.keepIn K (.ref f17) = true)
    (a18 : PySem.W.nsIn K mainGlobals "lots_of" = some (some (.ref f18)))
    (l18 : K.lookup f18 = some ⟨oc18, od18, .func (PySem.W.fnOf "lots_of" "lots_of" (defArgs sLots) (defBody sLots) (defScope sLots) .none kV18 dc18 pm18 an18 cd18 ct18), sl18⟩)
    (c18 : PySem.W.codeIn K cd18 "lots_of" = true)
    (k18 : PySem.W.keepIn K (.ref f18) = true)
    (a19 : PySem.W.nsIn K mainGlobals "sets_of" = some (some (.ref f19)))
    (l19 : K.lookup f19 = some ⟨oc19, od19, .func (PySem.W.fnOf "sets_of" "sets_of" (defArgs sSets) (defBody sSets) (defScope sSets) .none kV19 dc19 pm19 an19 cd19 ct19), sl19⟩)
    (c19 : PySem.W.codeIn K cd19 "sets_of" = true)
    (k19 : PySem.W.keepIn K (.ref f19) = true)
    (a20 : PySem.W.nsIn K mainGlobals "faults_of" = some (some (.ref f20)))
    (l20 : K.lookup f20 = some ⟨oc20, od20, .func (PySem.W.fnOf "faults_of" "faults_of" (defArgs sFaults) (defBody sFaults) (defScope sFaults) .none kV20 dc20 pm20 an20 cd20 ct20), sl20⟩)
    (c20 : PySem.W.codeIn K cd20 "faults_of" = true)
    (k20 : PySem.W.keepIn K (.ref f20) = true)
    (a21 : PySem.W.nsIn K mainGlobals "signs_of" = some (some (.ref f21)))
    (l21 : K.lookup f21 = some ⟨oc21, od21, .func (PySem.W.fnOf "signs_of" "signs_of" (defArgs sSigns) (defBody sSigns) (defScope sSigns) .none kV21 dc21 pm21 an21 cd21 ct21), sl21⟩)
    (c21 : PySem.W.codeIn K cd21 "signs_of" = true)
    (k21 : PySem.W.keepIn K (.ref f21) = true)
    (a22 : PySem.W.nsIn K mainGlobals "left_of" = some (some (.ref f22)))
    (l22 : K.lookup f22 = some ⟨oc22, od22, .func (PySem.W.fnOf "left_of" "left_of" (defArgs sLeft) (defBody sLeft) (defScope sLeft) .none kV22 dc22 pm22 an22 cd22 ct22), sl22⟩)
    (c22 : PySem.W.codeIn K cd22 "left_of" = true)
    (k22 : PySem.W.keepIn K (.ref f22) = true)
    (a23 : PySem.W.nsIn K mainGlobals "heads_left" = some (some (.ref f23)))
    (l23 : K.lookup f23 = some ⟨oc23, od23, .func (PySem.W.fnOf "heads_left" "heads_left" (defArgs sHeads) (defBody sHeads) (defScope sHeads) .none kV23 dc23 pm23 an23 cd23 ct23), sl23⟩)
    (c23 : PySem.W.codeIn K cd23 "heads_left" = true)
    (k23 : PySem.W.keepIn K (.ref f23) = true)
    (a24 : PySem.W.nsIn K mainGlobals "_law_meets" = some (some (.ref f24)))
    (l24 : K.lookup f24 = some ⟨oc24, od24, .func (PySem.W.fnOf "_law_meets" "_law_meets" (defArgs sLMeets) (defBody sLMeets) (defScope sLMeets) .none kV24 dc24 pm24 an24 cd24 ct24), sl24⟩)
    (c24 : PySem.W.codeIn K cd24 "_law_meets" = true)
    (k24 : PySem.W.keepIn K (.ref f24) = true)
    (a25 : PySem.W.nsIn K mainGlobals "_law_rows" = some (some (.ref f25)))
    (l25 : K.lookup f25 = some ⟨oc25, od25, .func (PySem.W.fnOf "_law_rows" "_law_rows" (defArgs sLRows) (defBody sLRows) (defScope sLRows) .none kV25 dc25 pm25 an25 cd25 ct25), sl25⟩)
    (c25 : PySem.W.codeIn K cd25 "_law_rows" = true)
    (k25 : PySem.W.keepIn K (.ref f25) = true)
    (a26 : PySem.W.nsIn K mainGlobals "_law_parts" = some (some (.ref f26)))
    (l26 : K.lookup f26 = some ⟨oc26, od26, .func (PySem.W.fnOf "_law_parts" "_law_parts" (defArgs sParts) (defBody sParts) (defScope sParts) .none kV26 dc26 pm26 an26 cd26 ct26), sl26⟩)
    (c26 : PySem.W.codeIn K cd26 "_law_parts" = true)
    (k26 : PySem.W.keepIn K (.ref f26) = true)
    (a27 : PySem.W.nsIn K mainGlobals "_law_fails" = some (some (.ref f27)))
    (l27 : K.lookup f27 = some ⟨oc27, od27, .func (PySem.W.fnOf "_law_fails" "_law_fails" (defArgs sLFails) (defBody sLFails) (defScope sLFails) .none kV27 dc27 pm27 an27 cd27 ct27), sl27⟩)
    (c27 : PySem.W.codeIn K cd27 "_law_fails" = true)
    (k27 : PySem.W.keepIn K (.ref f27) = true)
    (a28 : PySem.W.nsIn K mainGlobals "_law_sign" = some (some (.ref f28)))
    (l28 : K.lookup f28 = some ⟨oc28, od28, .func (PySem.W.fnOf "_law_sign" "_law_sign" (defArgs sLSign) (defBody sLSign) (defScope sLSign) .none kV28 dc28 pm28 an28 cd28 ct28), sl28⟩)
    (c28 : PySem.W.codeIn K cd28 "_law_sign" = true)
    (k28 : PySem.W.keepIn K (.ref f28) = true)
    (a29 : PySem.W.nsIn K mainGlobals "_law_fit" = some (some (.ref f29)))
    (l29 : K.lookup f29 = some ⟨oc29, od29, .func (PySem.W.fnOf "_law_fit" "_law_fit" (defArgs sLFit) (defBody sLFit) (defScope sLFit) .none kV29 dc29 pm29 an29 cd29 ct29), sl29⟩)
    (c29 : PySem.W.codeIn K cd29 "_law_fit" = true)
    (k29 : PySem.W.keepIn K (.ref f29) = true)
    (a30 : PySem.W.nsIn K mainGlobals "_law_lots" = some (some (.ref f30)))
    (l30 : K.lookup f30 = some ⟨oc30, od30, .func (PySem.W.fnOf "_law_lots" "_law_lots" (defArgs sLLots) (defBody sLLots) (defScope sLLots) .none kV30 dc30 pm30 an30 cd30 ct30), sl30⟩)
    (c30 : PySem.W.codeIn K cd30 "_law_lots" = true)
    (k30 : PySem.W.keepIn K (.ref f30) = true)
    (a31 : PySem.W.nsIn K mainGlobals "_law_all" = some (some (.ref f31)))
    (l31 : K.lookup f31 = some ⟨oc31, od31, .func (PySem.W.fnOf "_law_all" "_law_all" (defArgs sLAll) (defBody sLAll) (defScope sLAll) .none kV31 dc31 pm31 an31 cd31 ct31), sl31⟩)
    (c31 : PySem.W.codeIn K cd31 "_law_all" = true)
    (k31 : PySem.W.keepIn K (.ref f31) = true)
    (a32 : PySem.W.nsIn K mainGlobals "_law_heads" = some (some (.ref f32)))
    (l32 : K.lookup f32 = some ⟨oc32, od32, .func (PySem.W.fnOf "_law_heads" "_law_heads" (defArgs sLHeads) (defBody sLHeads) (defScope sLHeads) .none kV32 dc32 pm32 an32 cd32 ct32), sl32⟩)
    (c32 : PySem.W.codeIn K cd32 "_law_heads" = true)
    (k32 : PySem.W.keepIn K (.ref f32) = true)
    (a33 : PySem.W.nsIn K mainGlobals "_law_mixed" = some (some (.ref f33)))
    (l33 : K.lookup f33 = some ⟨oc33, od33, .func (PySem.W.fnOf "_law_mixed" "_law_mixed" (defArgs sMixed) (defBody sMixed) (defScope sMixed) .none kV33 dc33 pm33 an33 cd33 ct33), sl33⟩)
    (c33 : PySem.W.codeIn K cd33 "_law_mixed" = true)
    (k33 : PySem.W.keepIn K (.ref f33) = true)
    (a34 : PySem.W.nsIn K mainGlobals "_law_folded" = some (some (.ref f34)))
    (l34 : K.lookup f34 = some ⟨oc34, od34, .func (PySem.W.fnOf "_law_folded" "_law_folded" (defArgs sFolded) (defBody sFolded) (defScope sFolded) .none kV34 dc34 pm34 an34 cd34 ct34), sl34⟩)
    (c34 : PySem.W.codeIn K cd34 "_law_folded" = true)
    (k34 : PySem.W.keepIn K (.ref f34) = true)
    (a35 : PySem.W.nsIn K mainGlobals "_law_draw" = some (some (.ref f35)))
    (l35 : K.lookup f35 = some ⟨oc35, od35, .func (PySem.W.fnOf "_law_draw" "_law_draw" (defArgs sDraw) (defBody sDraw) (defScope sDraw) .none kV35 dc35 pm35 an35 cd35 ct35), sl35⟩)
    (c35 : PySem.W.codeIn K cd35 "_law_draw" = true)
    (k35 : PySem.W.keepIn K (.ref f35) = true)
    (a36 : PySem.W.nsIn K mainGlobals "_law_of" = some (some (.ref f36)))
    (l36 : K.lookup f36 = some ⟨oc36, od36, .func (PySem.W.fnOf "_law_of" "_law_of" (defArgs sOf) (defBody sOf) (defScope sOf) .none kV36 dc36 pm36 an36 cd36 ct36), sl36⟩)
    (c36 : PySem.W.codeIn K cd36 "_law_of" = true)
    (k36 : PySem.W.keepIn K (.ref f36) = true)
    (a37 : PySem.W.nsIn K mainGlobals "_law_begun" = some (some (.ref f37)))
    (l37 : K.lookup f37 = some ⟨oc37, od37, .func (PySem.W.fnOf "_law_begun" "_law_begun" (defArgs sBegun) (defBody sBegun) (defScope sBegun) .none kV37 dc37 pm37 an37 cd37 ct37), sl37⟩)
    (c37 : PySem.W.codeIn K cd37 "_law_begun" = true)
    (k37 : PySem.W.keepIn K (.ref f37) = true)
    (a38 : PySem.W.nsIn K mainGlobals "_law_lot" = some (some (.ref f38)))
    (l38 : K.lookup f38 = some ⟨oc38, od38, .func (PySem.W.fnOf "_law_lot" "_law_lot" (defArgs sLot) (defBody sLot) (defScope sLot) .none kV38 dc38 pm38 an38 cd38 ct38), sl38⟩)
    (c38 : PySem.W.codeIn K cd38 "_law_lot" = true)
    (k38 : PySem.W.keepIn K (.ref f38) = true)
    (a39 : PySem.W.nsIn K mainGlobals "_law_rig" = some (some (.ref f39)))
    (l39 : K.lookup f39 = some ⟨oc39, od39, .func (PySem.W.fnOf "_law_rig" "_law_rig" (defArgs sRig) (defBody sRig) (defScope sRig) .none kV39 dc39 pm39 an39 cd39 ct39), sl39⟩)
    (c39 : PySem.W.codeIn K cd39 "_law_rig" = true)
    (k39 : PySem.W.keepIn K (.ref f39) = true)
    (a40 : PySem.W.nsIn K mainGlobals "_law_good_rig" = some (some (.ref f40)))
    (l40 : K.lookup f40 = some ⟨oc40, od40, .func (PySem.W.fnOf "_law_good_rig" "_law_good_rig" (defArgs sGood) (defBody sGood) (defScope sGood) .none kV40 dc40 pm40 an40 cd40 ct40), sl40⟩)
    (c40 : PySem.W.codeIn K cd40 "_law_good_rig" = true)
    (k40 : PySem.W.keepIn K (.ref f40) = true)
    (a41 : PySem.W.nsIn K mainGlobals "_law_shape" = some (some (.ref f41)))
    (l41 : K.lookup f41 = some ⟨oc41, od41, .func (PySem.W.fnOf "_law_shape" "_law_shape" (defArgs sShape) (defBody sShape) (defScope sShape) .none kV41 dc41 pm41 an41 cd41 ct41), sl41⟩)
    (c41 : PySem.W.codeIn K cd41 "_law_shape" = true)
    (k41 : PySem.W.keepIn K (.ref f41) = true)
    (a42 : PySem.W.nsIn K mainGlobals "_law_begin_bench" = some (some (.ref f42)))
    (l42 : K.lookup f42 = some ⟨oc42, od42, .func (PySem.W.fnOf "_law_begin_bench" "_law_begin_bench" (defArgs sBegin) (defBody sBegin) (defScope sBegin) .none kV42 dc42 pm42 an42 cd42 ct42), sl42⟩)
    (c42 : PySem.W.codeIn K cd42 "_law_begin_bench" = true)
    (k42 : PySem.W.keepIn K (.ref f42) = true)
    (a43 : PySem.W.nsIn K mainGlobals "_law_gone_back" = some (some (.ref f43)))
    (l43 : K.lookup f43 = some ⟨oc43, od43, .func (PySem.W.fnOf "_law_gone_back" "_law_gone_back" (defArgs sGoBack) (defBody sGoBack) (defScope sGoBack) .none kV43 dc43 pm43 an43 cd43 ct43), sl43⟩)
    (c43 : PySem.W.codeIn K cd43 "_law_gone_back" = true)
    (k43 : PySem.W.keepIn K (.ref f43) = true)
    (a44 : PySem.W.nsIn K mainGlobals "_law_gone_on" = some (some (.ref f44)))
    (l44 : K.lookup f44 = some ⟨oc44, od44, .func (PySem.W.fnOf "_law_gone_on" "_law_gone_on" (defArgs sGoOn) (defBody sGoOn) (defScope sGoOn) .none kV44 dc44 pm44 an44 cd44 ct44), sl44⟩)
    (c44 : PySem.W.codeIn K cd44 "_law_gone_on" = true)
    (k44 : PySem.W.keepIn K (.ref f44) = true)
    (a45 : PySem.W.nsIn K mainGlobals "_law_run_one" = some (some (.ref f45)))
    (l45 : K.lookup f45 = some ⟨oc45, od45, .func (PySem.W.fnOf "_law_run_one" "_law_run_one" (defArgs sRunOne) (defBody sRunOne) (defScope sRunOne) .none kV45 dc45 pm45 an45 cd45 ct45), sl45⟩)
    (c45 : PySem.W.codeIn K cd45 "_law_run_one" = true)
    (k45 : PySem.W.keepIn K (.ref f45) = true)
    (a46 : PySem.W.nsIn K mainGlobals "_law_like" = some (some (.ref f46)))
    (l46 : K.lookup f46 = some ⟨oc46, od46, .func (PySem.W.fnOf "_law_like" "_law_like" (defArgs sLike) (defBody sLike) (defScope sLike) .none kV46 dc46 pm46 an46 cd46 ct46), sl46⟩)
    (c46 : PySem.W.codeIn K cd46 "_law_like" = true)
    (k46 : PySem.W.keepIn K (.ref f46) = true)
    (a47 : PySem.W.nsIn K mainGlobals "_law_stands" = some (some (.ref f47)))
    (l47 : K.lookup f47 = some ⟨oc47, od47, .func (PySem.W.fnOf "_law_stands" "_law_stands" (defArgs sStands) (defBody sStands) (defScope sStands) .none kV47 dc47 pm47 an47 cd47 ct47), sl47⟩)
    (c47 : PySem.W.codeIn K cd47 "_law_stands" = true)
    (k47 : PySem.W.keepIn K (.ref f47) = true)
    (a48 : PySem.W.nsIn K mainGlobals "_law_turn" = some (some (.ref f48)))
    (l48 : K.lookup f48 = some ⟨oc48, od48, .func (PySem.W.fnOf "_law_turn" "_law_turn" (defArgs sTurn) (defBody sTurn) (defScope sTurn) .none kV48 dc48 pm48 an48 cd48 ct48), sl48⟩)
    (c48 : PySem.W.codeIn K cd48 "_law_turn" = true)
    (k48 : PySem.W.keepIn K (.ref f48) = true)
    (a49 : PySem.W.nsIn K mainGlobals "_law_led" = some (some (.ref f49)))
    (l49 : K.lookup f49 = some ⟨oc49, od49, .func (PySem.W.fnOf "_law_led" "_law_led" (defArgs sLed) (defBody sLed) (defScope sLed) .none kV49 dc49 pm49 an49 cd49 ct49), sl49⟩)
    (c49 : PySem.W.codeIn K cd49 "_law_led" = true)
    (k49 : PySem.W.keepIn K (.ref f49) = true)
    (a50 : PySem.W.findIn K (.ref C) "rig" = some (some (.ref p50)))
    (g50 : PySem.W.specialIn K (.ref p50) "__get__" = some (some (.builtin "property.__get__")))
    (t50 : PySem.W.takesIn K (.ref p50) = some true)
    (r_50 : PySem.W.recIn K p50 "property" = some (.ref f50 :: r50))
    (l50 : K.lookup f50 = some ⟨oc50, od50, .func (PySem.W.fnOf "rig" "Bench.rig" (defArgs mRig) (defBody mRig) (defScope mRig) .none kV50 dc50 pm50 an50 cd50 ct50), sl50⟩)
    (c50 : PySem.W.codeIn K cd50 "Bench.rig" = true)
    (k50 : PySem.W.keepIn K (.ref f50) = true)
    (a51 : PySem.W.findIn K (.ref C) "shape" = some (some (.ref p51)))
    (g51 : PySem.W.specialIn K (.ref p51) "__get__" = some (some (.builtin "property.__get__")))
    (t51 : PySem.W.takesIn K (.ref p51) = some true)
    (r_51 : PySem.W.recIn K p51 "property" = some (.ref f51 :: r51))
    (l51 : K.lookup f51 = some ⟨oc51, od51, .func (PySem.W.fnOf "shape" "Bench.shape" (defArgs mShape) (defBody mShape) (defScope mShape) .none kV51 dc51 pm51 an51 cd51 ct51), sl51⟩)
    (c51 : PySem.W.codeIn K cd51 "Bench.shape" = true)
    (k51 : PySem.W.keepIn K (.ref f51) = true)
    (a52 : PySem.W.findIn K (.ref C) "log" = some (some (.ref p52)))
    (g52 : PySem.W.specialIn K (.ref p52) "__get__" = some (some (.builtin "property.__get__")))
    (t52 : PySem.W.takesIn K (.ref p52) = some true)
    (r_52 : PySem.W.recIn K p52 "property" = some (.ref f52 :: r52))
    (l52 : K.lookup f52 = some ⟨oc52, od52, .func (PySem.W.fnOf "log" "Bench.log" (defArgs mLog) (defBody mLog) (defScope mLog) .none kV52 dc52 pm52 an52 cd52 ct52), sl52⟩)
    (c52 : PySem.W.codeIn K cd52 "Bench.log" = true)
    (k52 : PySem.W.keepIn K (.ref f52) = true)
    (a53 : PySem.W.findIn K (.ref C) "__len__" = some (some (.ref f53)))
    (i53 : PySem.W.isFn K (.ref f53) = true)
    (l53 : K.lookup f53 = some ⟨oc53, od53, .func (PySem.W.fnOf "__len__" "Bench.__len__" (defArgs mLen) (defBody mLen) (defScope mLen) .none kV53 dc53 pm53 an53 cd53 ct53), sl53⟩)
    (c53 : PySem.W.codeIn K cd53 "Bench.__len__" = true)
    (k53 : PySem.W.keepIn K (.ref f53) = true)
    (a54 : PySem.W.findIn K (.ref C) "left" = some (some (.ref f54)))
    (i54 : PySem.W.isFn K (.ref f54) = true)
    (l54 : K.lookup f54 = some ⟨oc54, od54, .func (PySem.W.fnOf "left" "Bench.left" (defArgs mLeft) (defBody mLeft) (defScope mLeft) .none kV54 dc54 pm54 an54 cd54 ct54), sl54⟩)
    (c54 : PySem.W.codeIn K cd54 "Bench.left" = true)
    (k54 : PySem.W.keepIn K (.ref f54) = true)
    (a55 : PySem.W.findIn K (.ref C) "heads" = some (some (.ref f55)))
    (i55 : PySem.W.isFn K (.ref f55) = true)
    (l55 : K.lookup f55 = some ⟨oc55, od55, .func (PySem.W.fnOf "heads" "Bench.heads" (defArgs mHeads) (defBody mHeads) (defScope mHeads) .none kV55 dc55 pm55 an55 cd55 ct55), sl55⟩)
    (c55 : PySem.W.codeIn K cd55 "Bench.heads" = true)
    (k55 : PySem.W.keepIn K (.ref f55) = true)
    (a56 : PySem.W.findIn K (.ref C) "run" = some (some (.ref f56)))
    (i56 : PySem.W.isFn K (.ref f56) = true)
    (l56 : K.lookup f56 = some ⟨oc56, od56, .func (PySem.W.fnOf "run" "Bench.run" (defArgs mRun) (defBody mRun) (defScope mRun) .none kV56 dc56 pm56 an56 cd56 ct56), sl56⟩)
    (c56 : PySem.W.codeIn K cd56 "Bench.run" = true)
    (k56 : PySem.W.keepIn K (.ref f56) = true)
    (a57 : PySem.W.findIn K (.ref C) "undo" = some (some (.ref f57)))
    (i57 : PySem.W.isFn K (.ref f57) = true)
    (l57 : K.lookup f57 = some ⟨oc57, od57, .func (PySem.W.fnOf "undo" "Bench.undo" (defArgs mUndo) (defBody mUndo) (defScope mUndo) .none kV57 dc57 pm57 an57 cd57 ct57), sl57⟩)
    (c57 : PySem.W.codeIn K cd57 "Bench.undo" = true)
    (k57 : PySem.W.keepIn K (.ref f57) = true)
    (a58 : PySem.W.findIn K (.ref C) "redo" = some (some (.ref f58)))
    (i58 : PySem.W.isFn K (.ref f58) = true)
    (l58 : K.lookup f58 = some ⟨oc58, od58, .func (PySem.W.fnOf "redo" "Bench.redo" (defArgs mRedo) (defBody mRedo) (defScope mRedo) .none kV58 dc58 pm58 an58 cd58 ct58), sl58⟩)
    (c58 : PySem.W.codeIn K cd58 "Bench.redo" = true)
    (k58 : PySem.W.keepIn K (.ref f58) = true)
    (a59 : PySem.W.findIn K (.ref C) "__init__" = some (some (.ref f59)))
    (i59 : PySem.W.isFn K (.ref f59) = true)
    (l59 : K.lookup f59 = some ⟨oc59, od59, .func (PySem.W.fnOf "__init__" "Bench.__init__" (defArgs mInit) (defBody mInit) (defScope mInit) .none kV59 dc59 pm59 an59 cd59 ct59), sl59⟩)
    (c59 : PySem.W.codeIn K cd59 "Bench.__init__" = true)
    (k59 : PySem.W.keepIn K (.ref f59) = true)
    (a60 : PySem.W.nsIn K mainGlobals "law" = some (some (.ref f60)))
    (l60 : K.lookup f60 = some ⟨oc60, od60, .func (PySem.W.fnOf "law" "law" (defArgs sLawT) (defBody sLawT) (defScope sLawT) .none kV60 dc60 pm60 an60 cd60 ct60), sl60⟩)
    (c60 : PySem.W.codeIn K cd60 "law" = true)
    (k60 : PySem.W.keepIn K (.ref f60) = true)
    (pg : PySem.W.plainGet K C Str.empty = true)
    (hd : PySem.W.hasDictIn K C = true)
    (po : PySem.W.plainOver K C = true)
    (sa : PySem.W.findIn K (.ref C) "__setattr__" = some (some (.builtin "object.__setattr__")))
    (mkC : PySem.W.makesIn K C = true)
    (kpC : PySem.W.keepIn K (.ref C) = true)
    (n1 : PySem.W.findIn K (.ref C) "own_rig" = some none)
    (n2 : PySem.W.findIn K (.ref C) "own_shape" = some none)
    (n3 : PySem.W.findIn K (.ref C) "past" = some none)
    (n4 : PySem.W.findIn K (.ref C) "later" = some none)
    (z0 : PySem.W.nsIn K mainGlobals "all" = some none)
    (z1 : PySem.W.nsIn K mainGlobals "any" = some none)
    (z2 : PySem.W.nsIn K mainGlobals "len" = some none)
    (z3 : PySem.W.nsIn K mainGlobals "isinstance" = some none)
    (z4 : PySem.W.nsIn K mainGlobals "zip" = some none)
    (z5 : PySem.W.nsIn K mainGlobals "range" = some none)
    (z6 : PySem.W.nsIn K mainGlobals "enumerate" = some none)
    (z7 : PySem.W.nsIn K mainGlobals "tuple" = some none)
    (z8 : PySem.W.nsIn K mainGlobals "list" = some none)
    (z9 : PySem.W.nsIn K mainGlobals "sorted" = some none)
    (z10 : PySem.W.nsIn K mainGlobals "min" = some none)
    (z11 : PySem.W.nsIn K mainGlobals "int" = some none)
    (z12 : PySem.W.nsIn K mainGlobals "bool" = some none)
    (z13 : PySem.W.nsIn K mainGlobals "repr" = some none)
    (q0 : PySem.W.nsIn K mainGlobals "MOST_KNOBS" = some (some (.int 5 t0)))
    (q1 : PySem.W.nsIn K mainGlobals "LEAST_VALUES" = some (some (.int 2 t1)))
    (q2 : PySem.W.nsIn K mainGlobals "MOST_VALUES" = some (some (.int 4 t2)))
    (q3 : PySem.W.nsIn K mainGlobals "MOST_SETTINGS" = some (some (.int 3 t3)))
    (q4 : PySem.W.nsIn K mainGlobals "MOST_BARRED" = some (some (.int 6 t4)))
    (q5 : PySem.W.nsIn K mainGlobals "MOST_FAULTS" = some (some (.int 2000 t5)))
    (q6 : PySem.W.nsIn K mainGlobals "MOST_AT_ONCE" = some (some (.int 2 t6)))
    (q7 : PySem.W.nsIn K mainGlobals "MOST_LOG" = some (some (.int 40 t7))) :
    ∃ fd : FuncData, (∀ (s : Shared) (v : Value), BindsTo s fd ⟨[v], []⟩ [("script", v)]) ∧ ∀ base : Heap, K.In base → base.Ns mainGlobals mg → FnG l.prog w K mg base 12 fa fd ["script"] (spLaw K) := by
  have e := hfa.symm.trans (PySem.W.mg_of X G a60)
  cases e
  have S : Tops K mg C := {
      tb := ⟨PySem.W.mg_none_of X G z0, PySem.W.mg_none_of X G z1, PySem.W.mg_none_of X G z2, PySem.W.mg_none_of X G z3, PySem.W.mg_none_of X G z4, PySem.W.mg_none_of X G z5, PySem.W.mg_none_of X G z6, PySem.W.mg_none_of X G z7, PySem.W.mg_none_of X G z8, PySem.W.mg_none_of X G z9, PySem.W.mg_none_of X G z10, PySem.W.mg_none_of X G z11, PySem.W.mg_none_of X G z12, PySem.W.mg_none_of X G z13, ⟨_, PySem.W.mg_of X G q0⟩, ⟨_, PySem.W.mg_of X G q1⟩, ⟨_, PySem.W.mg_of X G q2⟩, ⟨_, PySem.W.mg_of X G q3⟩, ⟨_, PySem.W.mg_of X G q4⟩, ⟨_, PySem.W.mg_of X G q5⟩, ⟨_, PySem.W.mg_of X G q6⟩, ⟨_, PySem.W.mg_of X G q7⟩⟩
      bx := ⟨⟨pg, hd, po, sa⟩, n1, n2, n3, n4, PySem.W.mg_of X G aC⟩
      d_is_whole := dn_mk X G (fun _ _ _ _ _ _ us hl => match us, hl with | [_, _, _], _ => rfl) a1 l1 c1 k1
      d_does_meet := dn_mk X G (fun _ _ _ _ _ _ us hl => match us, hl with | [_, _], _ => rfl) a2 l2 c2 k2
      d_are_rising := dn_mk X G (fun _ _ _ _ _ _ us hl => match us, hl with | [_], _ => rfl) a3 l3 c3 k3
      d_is_setting := dn_mk X G (fun _ _ _ _ _ _ us hl => match us, hl with | [_, _], _ => rfl) a4 l4 c4 k4
      d_is_lot_of := dn_mk X G (fun _ _ _ _ _ _ us hl => match us, hl with | [_, _], _ => rfl) a5 l5 c5 k5
      d_wrong_in_barred := dn_mk X G (fun _ _ _ _ _ _ us hl => match us, hl with | [_, _], _ => rfl) a6 l6 c6 k6
      d_need_rig := dn_mk X G (fun _ _ _ _ _ _ us hl => match us, hl with | [_], _ => rfl) a7 l7 c7 k7
      d_is_row := dn_mk X G (fun _ _ _ _ _ _ us hl => match us, hl with | [_, _], _ => rfl) a8 l8 c8 k8
      d_is_let_of := dn_mk X G (fun _ _ _ _ _ _ us hl => match us, hl with | [_, _], _ => rfl) a9 l9 c9 k9
      d_rows_of := dn_mk X G (fun _ _ _ _ _ _ us hl => match us, hl with | [_], _ => rfl) a10 l10 c10 k10
      d_lots_on := dn_mk X G (fun _ _ _ _ _ _ us hl => match us, hl with | [_, _], _ => rfl) a11 l11 c11 k11
      d_knobs_by := dn_mk X G (fun _ _ _ _ _ _ us hl => match us, hl with | [_, _], _ => rfl) a12 l12 c12 k12
      d_does_fail := dn_mk X G (fun _ _ _ _ _ _ us hl => match us, hl with | [_, _], _ => rfl) a13 l13 c13 k13
      d_outcomes_of := dn_mk X G (fun _ _ _ _ _ _ us hl => match us, hl with | [_, _], _ => rfl) a14 l14 c14 k14
      d_does_fit := dn_mk X G (fun _ _ _ _ _ _ us hl => match us, hl with | [_, _], _ => rfl) a15 l15 c15 k15
      d_need_row := dn_mk X G (fun _ _ _ _ _ _ us hl => match us, hl with | [_, _], _ => rfl) a16 l16 c16 k16
      d_need_shape := dn_mk X G (fun _ _ _ _ _ _ us hl => match us, hl with | [_, _], _ => rfl) a17 l17 c17 k17
      d_lots_of := dn_mk X G (fun _ _ _ _ _ _ us hl => match us, hl with | [_, _], _ => rfl) a18 l18 c18 k18
      d_sets_of := dn_mk X G (fun _ _ _ _ _ _ us hl => match us, hl with | [_, _], _ => rfl) a19 l19 c19 k19
      d_faults_of := dn_mk X G (fun _ _ _ _ _ _ us hl => match us, hl with | [_, _], _ => rfl) a20 l20 c20 k20
      d_signs_of := dn_mk X G (fun _ _ _ _ _ _ us hl => match us, hl with | [_, _], _ => rfl) a21 l21 c21 k21
      d_left_of := dn_mk X G (fun _ _ _ _ _ _ us hl => match us, hl with | [_, _, _], _ => rfl) a22 l22 c22 k22
      d_heads_left := dn_mk X G (fun _ _ _ _ _ _ us hl => match us, hl with | [_, _, _], _ => rfl) a23 l23 c23 k23
      d_law_meets := dn_mk X G (fun _ _ _ _ _ _ us hl => match us, hl with | [_, _], _ => rfl) a24 l24 c24 k24
      d_law_rows := dn_mk X G (fun _ _ _ _ _ _ us hl => match us, hl with | [_], _ => rfl) a25 l25 c25 k25
      d_law_parts := dn_mk X G (fun _ _ _ _ _ _ us hl => match us, hl with | [_, _], _ => rfl) a26 l26 c26 k26
      d_law_fails := dn_mk X G (fun _ _ _ _ _ _ us hl => match us, hl with | [_, _], _ => rfl) a27 l27 c27 k27
      d_law_sign := dn_mk X G (fun _ _ _ _ _ _ us hl => match us, hl with | [_, _], _ => rfl) a28 l28 c28 k28
      d_law_fit := dn_mk X G (fun _ _ _ _ _ _ us hl => match us, hl with | [_, _], _ => rfl) a29 l29 c29 k29
      d_law_lots := dn_mk X G (fun _ _ _ _ _ _ us hl => match us, hl with | [_, _], _ => rfl) a30 l30 c30 k30
      d_law_all := dn_mk X G (fun _ _ _ _ _ _ us hl => match us, hl with | [_, _], _ => rfl) a31 l31 c31 k31
      d_law_heads := dn_mk X G (fun _ _ _ _ _ _ us hl => match us, hl with | [_, _, _], _ => rfl) a32 l32 c32 k32
      d_law_mixed := dn_mk X G (fun _ _ _ _ _ _ us hl => match us, hl with | [_, _], _ => rfl) a33 l33 c33 k33
      d_law_folded := dn_mk X G (fun _ _ _ _ _ _ us hl => match us, hl with | [_], _ => rfl) a34 l34 c34 k34
      d_law_draw := dn_mk X G (fun _ _ _ _ _ _ us hl => match us, hl with | [_, _], _ => rfl) a35 l35 c35 k35
      d_law_of := dn_mk X G (fun _ _ _ _ _ _ us hl => match us, hl with | [_, _], _ => rfl) a36 l36 c36 k36
      d_law_begun := dn_mk X G (fun _ _ _ _ _ _ us hl => match us, hl with | [_], _ => rfl) a37 l37 c37 k37
      d_law_lot := dn_mk X G (fun _ _ _ _ _ _ us hl => match us, hl with | [_, _, _], _ => rfl) a38 l38 c38 k38
      d_law_rig := dn_mk X G (fun _ _ _ _ _ _ us hl => match us, hl with | [_, _], _ => rfl) a39 l39 c39 k39
      d_law_good_rig := dn_mk X G (fun _ _ _ _ _ _ us hl => match us, hl with | [_, _], _ => rfl) a40 l40 c40 k40
      d_law_shape := dn_mk X G (fun _ _ _ _ _ _ us hl => match us, hl with | [_, _], _ => rfl) a41 l41 c41 k41
      d_law_begin_bench := dn_mk X G (fun _ _ _ _ _ _ us hl => match us, hl with | [_, _], _ => rfl) a42 l42 c42 k42
      d_law_gone_back := dn_mk X G (fun _ _ _ _ _ _ us hl => match us, hl with | [_], _ => rfl) a43 l43 c43 k43
      d_law_gone_on := dn_mk X G (fun _ _ _ _ _ _ us hl => match us, hl with | [_], _ => rfl) a44 l44 c44 k44
      d_law_run_one := dn_mk X G (fun _ _ _ _ _ _ us hl => match us, hl with | [_, _], _ => rfl) a45 l45 c45 k45
      d_law_like := dn_mk X G (fun _ _ _ _ _ _ us hl => match us, hl with | [_, _], _ => rfl) a46 l46 c46 k46
      d_law_stands := dn_mk X G (fun _ _ _ _ _ _ us hl => match us, hl with | [_, _], _ => rfl) a47 l47 c47 k47
      d_law_turn := dn_mk X G (fun _ _ _ _ _ _ us hl => match us, hl with | [_, _, _], _ => rfl) a48 l48 c48 k48
      d_law_led := dn_mk X G (fun _ _ _ _ _ _ us hl => match us, hl with | [_, _, _, _], _ => rfl) a49 l49 c49 k49
      m_rig := dp_mk (fun _ _ _ _ _ _ us hl => match us, hl with | [_], _ => rfl) a50 g50 t50 r_50 l50 c50 k50
      m_shape := dp_mk (fun _ _ _ _ _ _ us hl => match us, hl with | [_], _ => rfl) a51 g51 t51 r_51 l51 c51 k51
      m_log := dp_mk (fun _ _ _ _ _ _ us hl => match us, hl with | [_], _ => rfl) a52 g52 t52 r_52 l52 c52 k52
      m_len := dm_mk (fun _ _ _ _ _ _ us hl => match us, hl with | [_], _ => rfl) a53 i53 l53 c53 k53
      m_left := dm_mk (fun _ _ _ _ _ _ us hl => match us, hl with | [_], _ => rfl) a54 i54 l54 c54 k54
      m_heads := dm_mk (fun _ _ _ _ _ _ us hl => match us, hl with | [_], _ => rfl) a55 i55 l55 c55 k55
      m_run := dm_mk (fun _ _ _ _ _ _ us hl => match us, hl with | [_, _, _], _ => rfl) a56 i56 l56 c56 k56
      m_undo := dm_mk (fun _ _ _ _ _ _ us hl => match us, hl with | [_], _ => rfl) a57 i57 l57 c57 k57
      m_redo := dm_mk (fun _ _ _ _ _ _ us hl => match us, hl with | [_], _ => rfl) a58 i58 l58 c58 k58
      make := ⟨_, _, fun_mk l59 c59 k59, ⟨mkC, a59, i59, kpC⟩, (fun_mk l59 c59 k59).binds (fun _ _ _ _ _ _ us hl => match us, hl with | [_, _, _], _ => rfl)⟩ }
  exact ⟨PySem.W.fnOf "law" "law" (defArgs sLawT) (defBody sLawT) (defScope sLawT) .none kV60 dc60 pm60 an60 cd60 ct60, fun s v => .of_eq rfl, fun base _ _ => law_of_top S (fun_mk (st := sLawT) l60 c60 k60)⟩
end Rn
end

open PySem PySem.W PyProof.Rows in
set_option maxRecDepth 100000 in
set_option maxHeartbeats 0 in
theorem PySem.Challenge.cw_rowsthatname_k91_whole_benches_holds : PySem.Challenge.rw_rowsthatname_k91_whole_benches.Holds := by
  w_on; o_law; k_head; (case hw => w_witness2)
  k_fill
  refine Rn.walkG (l := PySem.Challenge.rw_rowsthatname_k91_whole_benches) (n := 63) (k := 12) (x := "script") (sp := Rn.spLaw) rfl (by decide) rfl ⟨rfl, by decide, by decide⟩ (fun w h Y => PySem.W.kIn_of Y) ?F (fun K H a ns hl hS => ⟨a, ns, rfl, hS, hl, fun _ => rfl⟩)
  case F =>
    intro w mg fa h KX G hmg
    have hl : mg "law" = some (Value.ref fa) := hmg
    clear hmg
    refine' Rn.all_mk KX G hl ?aC ?a1 ?l1 ?c1 ?k1 ?a2 ?l2 ?c2 ?k2 ?a3 ?l3 ?c3 ?k3 ?a4 ?l4 ?c4 ?k4 ?a5 ?l5 ?c5 ?k5 ?a6 ?l6 ?c6 ?k6 ?a7 ?l7 ?c7 ?k7 ?a8 ?l8 ?c8 ?k8 ?a9 ?l9 ?c9 ?k9 ?a10 ?l10 ?c10 ?k10 ?a11 ?l11 ?c11 ?k11 ?a12 ?l12 ?c12 ?k12 ?a13 ?l13 ?c13 ?k13 ?a14 ?l14 ?c14 ?k14 ?a15 ?l15 ?c15 ?k15 ?a16 ?l16 ?c16 ?k16 ?a17 ?l17 ?c17 ?k17 ?a18 ?l18 ?c18 ?k18 ?a19 ?l19 ?c19 ?k19 ?a20 ?l20 ?c20 ?k20 ?a21 ?l21 ?c21 ?k21 ?a22 ?l22 ?c22 ?k22 ?a23 ?l23 ?c23 ?k23 ?a24 ?l24 ?c24 ?k24 ?a25 ?l25 ?c25 ?k25 ?a26 ?l26 ?c26 ?k26 ?a27 ?l27 ?c27 ?k27 ?a28 ?l28 ?c28 ?k28 ?a29 ?l29 ?c29 ?k29 ?a30 ?l30 ?c30 ?k30 ?a31 ?l31 ?c31 ?k31 ?a32 ?l32 ?c32 ?k32 ?a33 ?l33 ?c33 ?k33 ?a34 ?l34 ?c34 ?k34 ?a35 ?l35 ?c35 ?k35 ?a36 ?l36 ?c36 ?k36 ?a37 ?l37 ?c37 ?k37 ?a38 ?l38 ?c38 ?k38 ?a39 ?l39 ?c39 ?k39 ?a40 ?l40 ?c40 ?k40 ?a41 ?l41 ?c41 ?k41 ?a42 ?l42 ?c42 ?k42 ?a43 ?l43 ?c43 ?k43 ?a44 ?l44 ?c44 ?k44 ?a45 ?l45 ?c45 ?k45 ?a46 ?l46 ?c46 ?k46 ?a47 ?l47 ?c47 ?k47 ?a48 ?l48 ?c48 ?k48 ?a49 ?l49 ?c49 ?k49 ?a50 ?g50 ?t50 ?r_50 ?l50 ?c50 ?k50 ?a51 ?g51 ?t51 ?r_51 ?l51 ?c51 ?k51 ?a52 ?g52 ?t52 ?r_52 ?l52 ?c52 ?k52 ?a53 ?i53 ?l53 ?c53 ?k53 ?a54 ?i54 ?l54 ?c54 ?k54 ?a55 ?i55 ?l55 ?c55 ?k55 ?a56 ?i56 ?l56 ?c56 ?k56 ?a57 ?i57 ?l57 ?c57 ?k57 ?a58 ?i58 ?l58 ?c58 ?k58 ?a59 ?i59 ?l59 ?c59 ?k59 ?a60 ?l60 ?c60 ?k60 ?pg ?hd ?po ?sa ?mkC ?kpC ?n1 ?n2 ?n3 ?n4 ?z0 ?z1 ?z2 ?z3 ?z4 ?z5 ?z6 ?z7 ?z8 ?z9 ?z10 ?z11 ?z12 ?z13 ?q0 ?q1 ?q2 ?q3 ?q4 ?q5 ?q6 ?q7
    (case aC => k_is)
    (case a1 => k_is)
    (case l1 => k_is)
    (case c1 => k_is)
    (case k1 => k_is)
    (case a2 => k_is)
    (case l2 => k_is)
    (case c2 => k_is)
    (case k2 => k_is)
    (case a3 => k_is)
    (case l3 => k_is)
    (case c3 => k_is)
    (case k3 => k_is)
    (case a4 => k_is)
    (case l4 => k_is)
    (case c4 => k_is)
    (case k4 => k_is)
    (case a5 => k_is)
    (case l5 => k_is)
    (case c5 => k_is)
    (case k5 => k_is)
    (case a6 => k_is)
    (case l6 => k_is)
    (case c6 => k_is)
    (case k6 => k_is)
    (case a7 => k_is)
    (case l7 => k_is)
    (case c7 => k_is)
    (case k7 => k_is)
    (case a8 => k_is)
    (case l8 => k_is)
    (case c8 => k_is)
    (case k8 => k_is)
    (case a9 => k_is)
    (case l9 => k_is)
    (case c9 => k_is)
    (case k9 => k_is)
    (case a10 => k_is)
    (case l10 => k_is)
    (case c10 => k_is)
    (case k10 => k_is)
    (case a11 => k_is)
    (case l11 => k_is)
    (case c11 => k_is)
    (case k11 => k_is)
    (case a12 => k_is)
    (case l12 => k_is)
    (case c12 => k_is)
    (case k12 => k_is)
    (case a13 => k_is)
    (case l13 => k_is)
    (case c13 => k_is)
    (case k13 => k_is)
    (case a14 => k_is)
    (case l14 => k_is)
    (case c14 => k_is)
    (case k14 => k_is)
    (case a15 => k_is)
    (case l15 => k_is)
    (case c15 => k_is)
    (case k15 => k_is)
    (case a16 => k_is)
    (case l16 => k_is)
    (case c16 => k_is)
    (case k16 => k_is)
    (case a17 => k_is)
    (case l17 => k_is)
    (case c17 => k_is)
    (case k17 => k_is)
    (case a18 => k_is)
    (case l18 => k_is)
    (case c18 => k_is)
    (case k18 => k_is)
    (case a19 => k_is)
    (case l19 => k_is)
    (case c19 => k_is)
    (case k19 => k_is)
    (case a20 => k_is)
    (case l20 => k_is)
    (case c20 => k_is)
    (case k20 => k_is)
    (case a21 => k_is)
    (case l21 => k_is)
    (case c21 => k_is)
    (case k21 => k_is)
    (case a22 => k_is)
    (case l22 => k_is)
    (case c22 => k_is)
    (case k22 => k_is)
    (case a23 => k_is)
    (case l23 => k_is)
    (case c23 => k_is)
    (case k23 => k_is)
    (case a24 => k_is)
    (case l24 => k_is)
    (case c24 => k_is)
    (case k24 => k_is)
    (case a25 => k_is)
    (case l25 => k_is)
    (case c25 => k_is)
    (case k25 => k_is)
    (case a26 => k_is)
    (case l26 => k_is)
    (case c26 => k_is)
    (case k26 => k_is)
    (case a27 => k_is)
    (case l27 => k_is)
    (case c27 => k_is)
    (case k27 => k_is)
    (case a28 => k_is)
    (case l28 => k_is)
    (case c28 => k_is)
    (case k28 => k_is)
    (case a29 => k_is)
    (case l29 => k_is)
    (case c29 => k_is)
    (case k29 => k_is)
    (case a30 => k_is)
    (case l30 => k_is)
    (case c30 => k_is)
    (case k30 => k_is)
    (case a31 => k_is)
    (case l31 => k_is)
    (case c31 => k_is)
    (case k31 => k_is)
    (case a32 => k_is)
    (case l32 => k_is)
    (case c32 => k_is)
    (case k32 => k_is)
    (case a33 => k_is)
    (case l33 => k_is)
    (case c33 => k_is)
    (case k33 => k_is)
    (case a34 => k_is)
    (case l34 => k_is)
    (case c34 => k_is)
    (case k34 => k_is)
    (case a35 => k_is)
    (case l35 => k_is)
    (case c35 => k_is)
    (case k35 => k_is)
    (case a36 => k_is)
    (case l36 => k_is)
    (case c36 => k_is)
    (case k36 => k_is)
    (case a37 => k_is)
    (case l37 => k_is)
    (case c37 => k_is)
    (case k37 => k_is)
    (case a38 => k_is)
    (case l38 => k_is)
    (case c38 => k_is)
    (case k38 => k_is)
    (case a39 => k_is)
    (case l39 => k_is)
    (case c39 => k_is)
    (case k39 => k_is)
    (case a40 => k_is)
    (case l40 => k_is)
    (case c40 => k_is)
    (case k40 => k_is)
    (case a41 => k_is)
    (case l41 => k_is)
    (case c41 => k_is)
    (case k41 => k_is)
    (case a42 => k_is)
    (case l42 => k_is)
    (case c42 => k_is)
    (case k42 => k_is)
    (case a43 => k_is)
    (case l43 => k_is)
    (case c43 => k_is)
    (case k43 => k_is)
    (case a44 => k_is)
    (case l44 => k_is)
    (case c44 => k_is)
    (case k44 => k_is)
    (case a45 => k_is)
    (case l45 => k_is)
    (case c45 => k_is)
    (case k45 => k_is)
    (case a46 => k_is)
    (case l46 => k_is)
    (case c46 => k_is)
    (case k46 => k_is)
    (case a47 => k_is)
    (case l47 => k_is)
    (case c47 => k_is)
    (case k47 => k_is)
    (case a48 => k_is)
    (case l48 => k_is)
    (case c48 => k_is)
    (case k48 => k_is)
    (case a49 => k_is)
    (case l49 => k_is)
    (case c49 => k_is)
    (case k49 => k_is)
    (case a50 => k_is)
    (case g50 => k_is)
    (case t50 => k_is)
    (case r_50 => k_is)
    (case l50 => k_is)
    (case c50 => k_is)
    (case k50 => k_is)
    (case a51 => k_is)
    (case g51 => k_is)
    (case t51 => k_is)
    (case r_51 => k_is)
    (case l51 => k_is)
    (case c51 => k_is)
    (case k51 => k_is)
    (case a52 => k_is)
    (case g52 => k_is)
    (case t52 => k_is)
    (case r_52 => k_is)
    (case l52 => k_is)
    (case c52 => k_is)
    (case k52 => k_is)
    (case a53 => k_is)
    (case i53 => k_is)
    (case l53 => k_is)
    (case c53 => k_is)
    (case k53 => k_is)
    (case a54 => k_is)
    (case i54 => k_is)
    (case l54 => k_is)
    (case c54 => k_is)
    (case k54 => k_is)
    (case a55 => k_is)
    (case i55 => k_is)
    (case l55 => k_is)
    (case c55 => k_is)
    (case k55 => k_is)
    (case a56 => k_is)
    (case i56 => k_is)
    (case l56 => k_is)
    (case c56 => k_is)
    (case k56 => k_is)
    (case a57 => k_is)
    (case i57 => k_is)
    (case l57 => k_is)
    (case c57 => k_is)
    (case k57 => k_is)
    (case a58 => k_is)
    (case i58 => k_is)
    (case l58 => k_is)
    (case c58 => k_is)
    (case k58 => k_is)
    (case a59 => k_is)
    (case i59 => k_is)
    (case l59 => k_is)
    (case c59 => k_is)
    (case k59 => k_is)
    (case a60 => k_is)
    (case l60 => k_is)
    (case c60 => k_is)
    (case k60 => k_is)
    (case pg => k_is)
    (case hd => k_is)
    (case po => k_is)
    (case sa => k_is)
    (case mkC => k_is)
    (case kpC => k_is)
    (case n1 => k_is)
    (case n2 => k_is)
    (case n3 => k_is)
    (case n4 => k_is)
    (case z0 => k_is)
    (case z1 => k_is)
    (case z2 => k_is)
    (case z3 => k_is)
    (case z4 => k_is)
    (case z5 => k_is)
    (case z6 => k_is)
    (case z7 => k_is)
    (case z8 => k_is)
    (case z9 => k_is)
    (case z10 => k_is)
    (case z11 => k_is)
    (case z12 => k_is)
    (case z13 => k_is)
    (case q0 => k_is)
    (case q1 => k_is)
    (case q2 => k_is)
    (case q3 => k_is)
    (case q4 => k_is)
    (case q5 => k_is)
    (case q6 => k_is)
    (case q7 => k_is)
